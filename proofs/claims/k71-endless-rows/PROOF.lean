import PyProof.Rows.All
import HandS.ForMost
import HandS.ForExc
import HandS.CallLocal
import HandS.CallSlots
import HandS.TryMany
import HandS.IsInst
import HandS.Wide
import HandS.RaiseMore
import HandS.Zip
import HandS.TupMul
import HandS.Deep
import HandS.Style
import HandS.Small
import HandS.DictComp
import HandS.DictTup
import HandS.WordsDict
import HandS.WideBits
import PySem.Challenge.RW_currentwebs_k71_whole_endless_rows
set_option Elab.async false
set_option linter.all false
set_option maxRecDepth 100000
set_option maxHeartbeats 4000000
namespace DL
open PySem PySem.Spec PyProof.Rows L2

/-- plain data; ref n is the n-th tracked object -/
inductive D where
  | non | bl (b : Bool) | int (i : Int) | str (x : Str)
  | tup (xs : List D) | lst (xs : List D) | scr (xs : List Int) | ref (n : Nat) | fn (x : String)
  deriving Inhabited

/-- tracked objects -/
inductive O where
  | lst (xs : List D)
  | dK (kvs : List (Key × D))
  | dT (kvs : List (List Key × D))
  deriving Inhabited

abbrev Sto := List O
abbrev Loc := List (Option D)

/-- what the program's names stand for -/
structure Gm where
  fn : String → Option Addr
  cl : String → Option Addr
  cst : String → V
  K : PySem.W.Frag
abbrev Gm.fA (G : Gm) (x : String) : Addr := (G.fn x).getD 0
abbrev Gm.cA (G : Gm) (x : String) : Addr := (G.cl x).getD 0

/-- an exception: its class by name, its one field if it has any -/
structure Xn where
  cls : String
  fld : Option (Str × D) := none

inductive R (α : Type) where
  | ok (a : α) (s : Sto)
  | ex (c : Xn) (s : Sto)
  | stuck

def R.bind {α β : Type} (r : R α) (f : α → Sto → R β) : R β :=
  match r with
  | .ok a s => f a s
  | .ex c s => .ex c s
  | .stuck => .stuck
@[simp] theorem R.bind_ok {α β : Type} (a : α) (s : Sto) (f : α → Sto → R β) : (R.ok a s).bind f = f a s := rfl
@[simp] theorem R.bind_ex {α β : Type} (c : Xn) (s : Sto) (f : α → Sto → R β) : (R.ex c s : R α).bind f = .ex c s := rfl
@[simp] theorem R.bind_stuck {α β : Type} (f : α → Sto → R β) : (R.stuck : R α).bind f = .stuck := rfl

abbrev ME := Loc → Sto → R D
abbrev MT := Loc → Sto → R Bool
abbrev MA := Loc → Sto → R (List D)
/-- a def: arguments, store -/
abbrev MF := List D → Sto → R D

inductive Out where
  | nx (l : Loc) (s : Sto)
  | rt (d : D) (s : Sto)
  | bk (l : Loc) (s : Sto)
  | ct (l : Loc) (s : Sto)
  | ex (c : Xn) (l : Loc) (s : Sto)
  | stuck
abbrev MS := Loc → Sto → Out

/-- tracked addresses, by place; reserved ones (a comprehension's list while it grows) -/
structure Mu where
  tr : List Addr
  rs : List Addr
instance : Membership Addr Mu := ⟨fun μ a => a ∈ μ.tr ∨ a ∈ μ.rs⟩
theorem Mu.mem {μ : Mu} {a : Addr} : a ∈ μ ↔ a ∈ μ.tr ∨ a ∈ μ.rs := Iff.rfl
abbrev Mu.add (μ : Mu) (p : Addr) : Mu := ⟨μ.tr ++ [p], μ.rs⟩

section
variable (G : Gm) (K : PySem.W.Frag)
mutual
inductive Rp (H : Hp) (μ : Mu) : V → D → Prop
  | non : Rp H μ .non .non
  | bl (b : Bool) : Rp H μ (.bl b) (.bl b)
  | int (i : Int) : Rp H μ (.int i) (.int i)
  | str (x : Str) : Rp H μ (.str x) (.str x)
  | tup {p : Addr} {vs : List V} {ds : List D} : H p = some (.tup vs) → p ∉ μ → RpA H μ vs ds → Rp H μ (.ref p) (.tup ds)
  | tupK {p : Addr} {o : Obj} {its : Array Value} {n : Nat} {vs : List V} {ds : List D} : K.lookup p = some o → o.cls = .type "tuple" → o.data = .seq its n → its.size ≤ sizeLine → Vals vs its.toList → RpA H μ vs ds → Rp H μ (.ref p) (.tup ds)
  | lst {p : Addr} {vs : List V} {ds : List D} : H p = some (.lst vs) → p ∉ μ → RpA H μ vs ds → Rp H μ (.ref p) (.lst ds)
  | scr {p : Addr} {o : Obj} {xs : List Int} : H p = some (.frz o (.lst (xs.map V.int))) → p ∉ μ → Rp H μ (.ref p) (.scr xs)
  | scrK {p : Addr} {o : Obj} {its : Array Value} {n : Nat} {xs : List Int} : K.lookup p = some o → o.cls = .type "list" → o.dict = none → o.data = .seq its n → its.size ≤ sizeLine → Vals (xs.map V.int) its.toList → Rp H μ (.ref p) (.scr xs)
  | ref {n : Nat} {p : Addr} : μ.tr[n]? = some p → Rp H μ (.ref p) (.ref n)
  | fn {x : String} {p : Addr} : G.fn x = some p → Rp H μ (.ref p) (.fn x)
inductive RpA (H : Hp) (μ : Mu) : List V → List D → Prop
  | nil : RpA H μ [] []
  | cons {v : V} {d : D} {vs : List V} {ds : List D} : Rp H μ v d → RpA H μ vs ds → RpA H μ (v :: vs) (d :: ds)
end

/-- the heap has grown: what is known and not tracked stays -/
structure Mono (H : Hp) (μ : Mu) (H' : Hp) (μ' : Mu) : Prop where
  keep : ∀ a o, H a = some o → a ∉ μ → H' a = some o
  notin : ∀ a o, H a = some o → a ∉ μ → a ∉ μ'
  pre : ∀ (n : Nat) (p : Addr), μ.tr[n]? = some p → μ'.tr[n]? = some p
structure Grow (H : Hp) (μ : Mu) (H' : Hp) (μ' : Mu) : Prop where
  keep : ∀ a o, H a = some o → a ∉ μ → H' a = some o
  news : ∀ a, a ∈ μ'.tr → a ∈ μ.tr ∨ H a = none
  pre : ∀ (n : Nat) (p : Addr), μ.tr[n]? = some p → μ'.tr[n]? = some p
  rs : μ'.rs = μ.rs
  res : ∀ a, a ∈ μ.rs → H' a = H a

inductive KVp {κ : Type} (H : Hp) (μ : Mu) : List (κ × V) → List (κ × D) → Prop
  | nil : KVp H μ [] []
  | cons {k : κ} {v : V} {d : D} {vs : List (κ × V)} {ds : List (κ × D)} : Rp G K H μ v d → KVp H μ vs ds → KVp H μ ((k, v) :: vs) ((k, d) :: ds)

def RO (H : Hp) (μ : Mu) (p : Addr) : O → Prop
  | .lst ds => ∃ vs, H p = some (.lst vs) ∧ RpA G K H μ vs ds
  | .dK kvs => ∃ vs, H p = some (.dK vs) ∧ KVp G K H μ vs kvs
  | .dT kvs => ∃ vs, H p = some (.dT vs) ∧ KVp G K H μ vs kvs

structure RS (H : Hp) (μ : Mu) (s : Sto) : Prop where
  len : μ.tr.length = s.length
  nd : μ.tr.Nodup
  at_ : ∀ (n : Nat) (p : Addr) (o : O), μ.tr[n]? = some p → s[n]? = some o → RO G K H μ p o
  rk : ∀ a, a ∈ μ.rs → (∃ o, H a = some o) ∧ a ∉ μ.tr

def RL (H : Hp) (μ : Mu) (σ : L2.St) (l : Loc) : Prop :=
  σ.length = l.length ∧ ∀ (i : Nat) (d : D), l[i]? = some (some d) → ∃ v, σ[i]? = some (some v) ∧ Rp G K H μ v d
end

section
variable {G : Gm} {K : PySem.W.Frag} {H H' H1 H2 : Hp} {μ μ' μ1 μ2 : Mu}

theorem Grow.refl : Grow H μ H μ := ⟨fun _ _ h _ => h, fun _ h => .inl h, fun _ _ h => h, rfl, fun _ _ => rfl⟩
theorem Grow.notin (g : Grow H μ H' μ') {a : Addr} {o : HO} (h : H a = some o) (hn : a ∉ μ) : a ∉ μ' := fun hx => by
  rcases hx with hx | hx
  · rcases g.news a hx with z | z
    · exact hn (.inl z)
    · rw [z] at h; cases h
  · rw [g.rs] at hx; exact hn (.inr hx)
theorem Grow.mono (g : Grow H μ H' μ') : Mono H μ H' μ' := ⟨g.keep, fun _ _ h n => g.notin h n, g.pre⟩
theorem Grow.trans (a : Grow H μ H1 μ1) (b : Grow H1 μ1 H2 μ2) : Grow H μ H2 μ2 := by
  refine ⟨fun x o h hn => b.keep x o (a.keep x o h hn) (a.notin h hn), fun x hx => ?_, fun n p h => b.pre n p (a.pre n p h), b.rs.trans a.rs, fun x hx => ?_⟩
  · rcases b.news x hx with z | z
    · exact a.news x z
    · by_cases hm : x ∈ μ
      · rcases hm with hm | hm
        · exact .inl hm
        · right; rw [← a.res x hm]; exact z
      · right
        cases q : H x with
        | none => rfl
        | some o =>
          have := a.keep x o q hm
          rw [z] at this; cases this
  · rw [b.res x (by rw [a.rs]; exact hx), a.res x hx]
mutual
theorem Rp.mon (g : Mono H μ H' μ') : ∀ {v : V} {d : D}, Rp G K H μ v d → Rp G K H' μ' v d
  | _, _, .non => .non
  | _, _, .bl b => .bl b
  | _, _, .int i => .int i
  | _, _, .str x => .str x
  | _, _, .tup h n r => .tup (g.keep _ _ h n) (g.notin _ _ h n) (RpA.mon g r)
  | _, _, .tupK a b c e f r => .tupK a b c e f (RpA.mon g r)
  | _, _, .lst h n r => .lst (g.keep _ _ h n) (g.notin _ _ h n) (RpA.mon g r)
  | _, _, .scr h n => .scr (g.keep _ _ h n) (g.notin _ _ h n)
  | _, _, .scrK a b c d e f => .scrK a b c d e f
  | _, _, .ref h => .ref (g.pre _ _ h)
  | _, _, .fn h => .fn h
theorem RpA.mon (g : Mono H μ H' μ') : ∀ {vs : List V} {ds : List D}, RpA G K H μ vs ds → RpA G K H' μ' vs ds
  | _, _, .nil => .nil
  | _, _, .cons a r => .cons (Rp.mon g a) (RpA.mon g r)
end
theorem Rp.mono (g : Grow H μ H' μ') {v : V} {d : D} (h : Rp G K H μ v d) : Rp G K H' μ' v d := h.mon g.mono
theorem RpA.mono (g : Grow H μ H' μ') {vs : List V} {ds : List D} (h : RpA G K H μ vs ds) : RpA G K H' μ' vs ds := h.mon g.mono
theorem KVp.mon {κ : Type} (g : Mono H μ H' μ') : ∀ {vs : List (κ × V)} {ds : List (κ × D)}, KVp G K H μ vs ds → KVp G K H' μ' vs ds
  | _, _, .nil => .nil
  | _, _, .cons a r => .cons (a.mon g) (KVp.mon g r)
theorem RL.mon (g : Mono H μ H' μ') {σ : L2.St} {l : Loc} (r : RL G K H μ σ l) : RL G K H' μ' σ l :=
  ⟨r.1, fun i d e => let ⟨v, a, b⟩ := r.2 i d e; ⟨v, a, b.mon g⟩⟩
theorem RL.mono (g : Grow H μ H' μ') {σ : L2.St} {l : Loc} (r : RL G K H μ σ l) : RL G K H' μ' σ l := r.mon g.mono
theorem RO.mon {p : Addr} {o : O} (q : RO G K H μ p o) (g : Mono H μ H' μ') (h : ∀ u, H p = some u → H' p = some u) : RO G K H' μ' p o := by
  cases o with
  | lst ds => obtain ⟨vs, a, b⟩ := q; exact ⟨vs, h _ a, b.mon g⟩
  | dK ds => obtain ⟨vs, a, b⟩ := q; exact ⟨vs, h _ a, b.mon g⟩
  | dT ds => obtain ⟨vs, a, b⟩ := q; exact ⟨vs, h _ a, b.mon g⟩

theorem RpA.length : ∀ {vs : List V} {ds : List D}, RpA G K H μ vs ds → vs.length = ds.length
  | _, _, .nil => rfl
  | _, _, .cons _ r => by rw [List.length_cons, List.length_cons, RpA.length r]
theorem RpA.get : ∀ {vs : List V} {ds : List D} {i : Nat} {d : D}, RpA G K H μ vs ds → ds[i]? = some d → ∃ v, vs[i]? = some v ∧ Rp G K H μ v d
  | _, _, _, _, .nil, e => by simp at e
  | _, _, 0, _, .cons a _, e => by simp at e; subst e; exact ⟨_, rfl, a⟩
  | _, _, i + 1, _, .cons _ r, e => by
    obtain ⟨v, h1, h2⟩ := RpA.get (i := i) r (by simpa using e)
    exact ⟨v, by simpa using h1, h2⟩
theorem RpA.getV : ∀ {vs : List V} {ds : List D} {i : Nat} {v : V}, RpA G K H μ vs ds → vs[i]? = some v → ∃ d, ds[i]? = some d ∧ Rp G K H μ v d
  | _, _, _, _, .nil, e => by simp at e
  | _, _, 0, _, .cons a _, e => by simp at e; subst e; exact ⟨_, rfl, a⟩
  | _, _, i + 1, _, .cons _ r, e => by
    obtain ⟨v, h1, h2⟩ := RpA.getV (i := i) r (by simpa using e)
    exact ⟨v, by simpa using h1, h2⟩
theorem RpA.append : ∀ {vs us : List V} {ds es : List D}, RpA G K H μ vs ds → RpA G K H μ us es → RpA G K H μ (vs ++ us) (ds ++ es)
  | _, _, _, _, .nil, s => s
  | _, _, _, _, .cons a r, s => .cons a (RpA.append r s)
theorem RpA.take : ∀ {vs : List V} {ds : List D} (n : Nat), RpA G K H μ vs ds → RpA G K H μ (vs.take n) (ds.take n)
  | _, _, 0, _ => .nil
  | _, _, _ + 1, .nil => .nil
  | _, _, n + 1, .cons a r => .cons a (RpA.take n r)
theorem RpA.drop : ∀ {vs : List V} {ds : List D} (n : Nat), RpA G K H μ vs ds → RpA G K H μ (vs.drop n) (ds.drop n)
  | _, _, 0, r => r
  | _, _, _ + 1, .nil => .nil
  | _, _, n + 1, .cons _ r => RpA.drop n r
theorem RpA.set : ∀ {vs : List V} {ds : List D} {v : V} {d : D} (n : Nat), RpA G K H μ vs ds → Rp G K H μ v d → RpA G K H μ (vs.set n v) (ds.set n d)
  | _, _, _, _, _, .nil, _ => .nil
  | _, _, _, _, 0, .cons _ r, a => .cons a r
  | _, _, _, _, n + 1, .cons b r, a => .cons b (RpA.set n r a)
theorem RpA.reverse : ∀ {vs : List V} {ds : List D}, RpA G K H μ vs ds → RpA G K H μ vs.reverse ds.reverse
  | _, _, .nil => .nil
  | _, _, .cons a r => by
    rw [List.reverse_cons, List.reverse_cons]
    exact RpA.append (RpA.reverse r) (.cons a .nil)
theorem RpA.replicate {vs : List V} {ds : List D} (r : RpA G K H μ vs ds) : ∀ n : Nat, RpA G K H μ (List.replicate n vs).flatten (List.replicate n ds).flatten
  | 0 => .nil
  | n + 1 => by
    rw [List.replicate_succ, List.replicate_succ, List.flatten_cons, List.flatten_cons]
    exact RpA.append r (RpA.replicate r n)
theorem RpA.ints : ∀ xs : List Int, RpA G K H μ (xs.map V.int) (xs.map D.int)
  | [] => .nil
  | x :: xs => .cons (.int x) (RpA.ints xs)

/-! ### the store -/
theorem RO.some_ {p : Addr} {o : O} (q : RO G K H μ p o) : ∃ u, H p = some u := by
  cases o with
  | lst ds => obtain ⟨vs, a, _⟩ := q; exact ⟨_, a⟩
  | dK ds => obtain ⟨vs, a, _⟩ := q; exact ⟨_, a⟩
  | dT ds => obtain ⟨vs, a, _⟩ := q; exact ⟨_, a⟩
theorem RS.some_ {s : Sto} (r : RS G K H μ s) {n : Nat} {p : Addr} (e : μ.tr[n]? = some p) : ∃ u, H p = some u := by
  have hn : n < s.length := by rw [← r.len]; exact (List.getElem?_eq_some_iff.mp e).1
  exact (r.at_ n p s[n] e (List.getElem?_eq_getElem hn)).some_
theorem RS.mem_some {s : Sto} (r : RS G K H μ s) {p : Addr} (h : p ∈ μ) : ∃ u, H p = some u := by
  rcases h with h | h
  · obtain ⟨n, hn⟩ := List.mem_iff_getElem?.mp h
    exact r.some_ hn
  · exact (r.rk p h).1
theorem RS.notin {s : Sto} (r : RS G K H μ s) {p : Addr} (h : H p = none) : p ∉ μ := fun z => by
  obtain ⟨u, e⟩ := r.mem_some z
  rw [h] at e; cases e
/-- a new object, not tracked -/
theorem RS.galloc {s : Sto} (r : RS G K H μ s) {p : Addr} {o : HO} (h : H p = none) : Grow H μ (upd H p o) μ :=
  ⟨fun a u e _ => by rw [upd_ne (ne_of_none e h)]; exact e, fun _ h => .inl h, fun _ _ h => h, rfl, fun a ha => upd_ne fun z => r.notin h (.inr (z ▸ ha))⟩
/-- a new object, tracked -/
theorem RS.gtrack {s : Sto} (r : RS G K H μ s) {p : Addr} {o : HO} (h : H p = none) : Grow H μ (upd H p o) (μ.add p) :=
  ⟨fun a u e _ => by rw [upd_ne (ne_of_none e h)]; exact e, fun a ha => by
    rcases List.mem_append.mp ha with z | z
    · exact .inl z
    · right; rw [List.mem_singleton] at z; rw [z]; exact h, fun n q e => by
    show (μ.tr ++ [p])[n]? = some q
    rw [List.getElem?_append_left (List.getElem?_eq_some_iff.mp e).1]; exact e, rfl, fun a ha => upd_ne fun z => r.notin h (.inr (z ▸ ha))⟩
/-- a tracked object is changed -/
theorem RS.gwrite {s : Sto} (r : RS G K H μ s) {p : Addr} {o : HO} (h : p ∈ μ.tr) : Grow H μ (upd H p o) μ :=
  ⟨fun a u e hn => by rw [upd_ne (fun z => hn (by rw [z]; exact .inl h))]; exact e, fun _ h => .inl h, fun _ _ h => h, rfl, fun a ha => upd_ne fun z => (r.rk a ha).2 (z ▸ h)⟩
/-- an untracked new object -/
theorem RS.alloc {s : Sto} (r : RS G K H μ s) {p : Addr} {o : HO} (h : H p = none) : RS G K (upd H p o) μ s :=
  ⟨r.len, r.nd, fun n q u e1 e2 => (r.at_ n q u e1 e2).mon (r.galloc h).mono fun u e => by rw [upd_ne (ne_of_none e h)]; exact e,
    fun a ha => ⟨by rw [(r.galloc (o := o) h).res a ha]; exact (r.rk a ha).1, (r.rk a ha).2⟩⟩
/-- a tracked new object -/
theorem RS.track {s : Sto} (r : RS G K H μ s) {p : Addr} {o : HO} {d : O} (h : H p = none) (hd : RO G K (upd H p o) (μ.add p) p d) : RS G K (upd H p o) (μ.add p) (s ++ [d]) := by
  refine ⟨by show (μ.tr ++ [p]).length = _; rw [List.length_append, List.length_append, r.len]; rfl, ?_, fun n q u e1 e2 => ?_, fun a ha => ⟨by rw [(r.gtrack (o := o) h).res a ha]; exact (r.rk a ha).1, fun z => ?_⟩⟩
  · show (μ.tr ++ [p]).Nodup
    rw [List.nodup_append]
    refine ⟨r.nd, by simp, fun a ha b hb => ?_⟩
    rw [List.mem_singleton] at hb
    subst hb
    intro z
    subst z
    exact r.notin h (.inl ha)
  · have e1 : (μ.tr ++ [p])[n]? = some q := e1
    by_cases hn : n < μ.tr.length
    · rw [List.getElem?_append_left hn] at e1
      rw [List.getElem?_append_left (by rw [← r.len]; exact hn)] at e2
      exact (r.at_ n q u e1 e2).mon (r.gtrack h).mono fun u e => by rw [upd_ne (ne_of_none e h)]; exact e
    · have hn2 : n = μ.tr.length := by
        have := (List.getElem?_eq_some_iff.mp e1).1
        rw [List.length_append] at this
        simp at this
        omega
      subst hn2
      rw [List.getElem?_append_right (Nat.le_refl _)] at e1
      rw [r.len, List.getElem?_append_right (Nat.le_refl _)] at e2
      simp at e1 e2
      subst e1 e2
      exact hd
  · rcases List.mem_append.mp z with z | z
    · exact (r.rk a ha).2 z
    · rw [List.mem_singleton] at z
      subst z
      exact r.notin h (.inr ha)
/-- the n-th tracked object is changed -/
theorem RS.write {s : Sto} (r : RS G K H μ s) {n : Nat} {p : Addr} {o : HO} {d : O} (e : μ.tr[n]? = some p) (hd : RO G K (upd H p o) μ p d) : RS G K (upd H p o) μ (s.set n d) := by
  have hm : p ∈ μ.tr := List.mem_iff_getElem?.mpr ⟨n, e⟩
  refine ⟨by rw [List.length_set]; exact r.len, r.nd, fun m q u e1 e2 => ?_, fun a ha => ⟨by rw [(r.gwrite (o := o) hm).res a ha]; exact (r.rk a ha).1, (r.rk a ha).2⟩⟩
  by_cases h : n = m
  · subst h
    rw [e] at e1
    cases e1
    have hn : n < s.length := by rw [← r.len]; exact (List.getElem?_eq_some_iff.mp e).1
    rw [List.getElem?_set_self hn] at e2
    cases e2
    exact hd
  · rw [List.getElem?_set_ne h] at e2
    have hq : q ≠ p := fun z => by
      subst z
      exact h ((List.getElem?_inj (List.getElem?_eq_some_iff.mp e).1 r.nd).mp (e.trans e1.symm))
    exact (r.at_ m q u e1 e2).mon (r.gwrite hm).mono fun u e => by rw [upd_ne hq]; exact e
end

/-! ### what a reading comes to -/
/-- a class as a value -/
def Gm.clv (G : Gm) (c : String) : Option Value := (G.cl c).map Value.ref
/-- an exception's dict -/
def Fld (G : Gm) (K : PySem.W.Frag) (H : Hp) (μ : Mu) (x : Xn) (d : Option Addr) : Prop :=
  match x.fld with
  | none => d = none
  | some (f, a) => ∃ p v, d = some p ∧ H p = some (.xd [(f, v)]) ∧ Rp G K H μ v a

section
variable (G : Gm) (K : PySem.W.Frag)
/-- t's reading comes to r -/
def okP {α β : Type} (t : (β → Hp → Prop) → Prop) (W : Value → Option Addr → Hp → Prop) (H : Hp) (μ : Mu) (Rl : Hp → Mu → β → α → Prop) : R α → Prop
  | .ok a s' => ∀ Q : β → Hp → Prop, (∀ b H' μ', Grow H μ H' μ' → RS G K H' μ' s' → Rl H' μ' b a → Q b H') → t Q
  | .ex x s' => ∀ Q : β → Hp → Prop, (∀ C d H' μ', Grow H μ H' μ' → RS G K H' μ' s' → G.cl x.cls = some C → Fld G K H' μ' x d → W (.ref C) d H') → t Q
  | .stuck => True
/-- what is to hold behind a statement -/
def Post (D : Ends) (W : WX) (H : Hp) (μ : Mu) : Out → Prop
  | .nx l s' => ∀ σ' H' μ', Grow H μ H' μ' → RL G K H' μ' σ' l → RS G K H' μ' s' → D.nx σ' H'
  | .rt d s' => ∀ v H' μ', Grow H μ H' μ' → RS G K H' μ' s' → Rp G K H' μ' v d → D.rt v H'
  | .bk l s' => ∀ σ' H' μ', Grow H μ H' μ' → RL G K H' μ' σ' l → RS G K H' μ' s' → D.bk σ' H'
  | .ct l s' => ∀ σ' H' μ', Grow H μ H' μ' → RL G K H' μ' σ' l → RS G K H' μ' s' → D.ct σ' H'
  | .ex x l s' => ∀ C d σ' H' μ', Grow H μ H' μ' → RL G K H' μ' σ' l → RS G K H' μ' s' → G.cl x.cls = some C → Fld G K H' μ' x d → W (.ref C) d σ' H'
  | .stuck => False
def okS (t : TS) (W : WX) (σ : L2.St) (H : Hp) (μ : Mu) (o : Out) : Prop := ∀ D : Ends, Post G K D W H μ o → t D σ H
end

theorem Post.up {G : Gm} {K : PySem.W.Frag} {D : Ends} {W : WX} {H H' : Hp} {μ μ' : Mu} {o : Out} (g : Grow H μ H' μ') (h : Post G K D W H μ o) : Post G K D W H' μ' o := by
  cases o with
  | nx l s => exact fun σ' H1 μ1 g1 => h σ' H1 μ1 (g.trans g1)
  | rt d s => exact fun v H1 μ1 g1 => h v H1 μ1 (g.trans g1)
  | bk l s => exact fun σ' H1 μ1 g1 => h σ' H1 μ1 (g.trans g1)
  | ct l s => exact fun σ' H1 μ1 g1 => h σ' H1 μ1 (g.trans g1)
  | ex x l s => exact fun C d σ' H1 μ1 g1 => h C d σ' H1 μ1 (g.trans g1)
  | stuck => exact h

section
variable {G : Gm} {K : PySem.W.Frag} {H H' : Hp} {μ μ' : Mu} {α β γ δ : Type} {W : Value → Option Addr → Hp → Prop}
theorem okP.up {t : (β → Hp → Prop) → Prop} {Rl : Hp → Mu → β → α → Prop} {r : R α} (g : Grow H μ H' μ') (h : okP G K t W H' μ' Rl r) : okP G K t W H μ Rl r := by
  cases r with
  | ok a s => exact fun Q k => h Q fun b H1 μ1 g1 => k b H1 μ1 (g.trans g1)
  | ex c s => exact fun Q k => h Q fun b d H1 μ1 g1 => k b d H1 μ1 (g.trans g1)
  | stuck => trivial
theorem okP.bind {t : (β → Hp → Prop) → Prop} {u : β → Hp → (δ → Hp → Prop) → Prop} {Rl : Hp → Mu → β → α → Prop} {Rm : Hp → Mu → δ → γ → Prop} {r : R α} {f : α → Sto → R γ}
    (h : okP G K t W H μ Rl r) (k : ∀ b H1 μ1 a s1, Grow H μ H1 μ1 → RS G K H1 μ1 s1 → Rl H1 μ1 b a → okP G K (u b H1) W H1 μ1 Rm (f a s1)) :
    okP G K (fun Q => t fun b H1 => u b H1 Q) W H μ Rm (r.bind f) := by
  cases r with
  | ok a s =>
    show okP G K _ W H μ Rm (f a s)
    have k' := fun b H1 μ1 => k b H1 μ1 a s
    cases e : f a s with
    | ok c s2 =>
      intro Q q
      refine h _ fun b H1 μ1 g r1 l => ?_
      have z := k' b H1 μ1 g r1 l
      rw [e] at z
      exact z Q fun x H2 μ2 g2 => q x H2 μ2 (g.trans g2)
    | ex c s2 =>
      intro Q q
      refine h _ fun b H1 μ1 g r1 l => ?_
      have z := k' b H1 μ1 g r1 l
      rw [e] at z
      exact z Q fun x d H2 μ2 g2 => q x d H2 μ2 (g.trans g2)
    | stuck => trivial
  | ex c s =>
    intro Q q
    exact h _ fun b d H1 μ1 g => q b d H1 μ1 g
  | stuck => trivial
/-- a value at once -/
theorem okP.now {t : (β → Hp → Prop) → Prop} {Rl : Hp → Mu → β → α → Prop} {a : α} {s : Sto} (h : ∀ Q : β → Hp → Prop, (∀ b H' μ', Grow H μ H' μ' → RS G K H' μ' s → Rl H' μ' b a → Q b H') → t Q) : okP G K t W H μ Rl (.ok a s) := h
end
end DL


namespace DL
open PySem PySem.Spec PyProof.Rows L2

structure JE (X : Cx) (G : Gm) (W : WX) (e : Expr) (t : TE) (m : ME) : Prop where
  pe : Takes X W → PE X e t
  sim : ∀ (σ : L2.St) (H : Hp) (μ : Mu) (l : Loc) (s : Sto), RL G G.K H μ σ l → RS G G.K H μ s → okP G G.K (t σ H) (fun c d H' => W c d σ H') H μ (Rp G G.K) (m l s)
abbrev BEq2 : Hp → Mu → Bool → Bool → Prop := fun _ _ b a => b = a
structure JT (X : Cx) (G : Gm) (W : WX) (e : Expr) (t : TT) (m : MT) : Prop where
  pe : Takes X W → PT X e t
  sim : ∀ (σ : L2.St) (H : Hp) (μ : Mu) (l : Loc) (s : Sto), RL G G.K H μ σ l → RS G G.K H μ s → okP G G.K (t σ H) (fun c d H' => W c d σ H') H μ BEq2 (m l s)
structure JW (X : Cx) (G : Gm) (W : WX) (e : Expr) (t : TT) (m : MT) : Prop where
  pe : Takes X W → PW X e t
  sim : ∀ (σ : L2.St) (H : Hp) (μ : Mu) (l : Loc) (s : Sto), RL G G.K H μ σ l → RS G G.K H μ s → okP G G.K (t σ H) (fun c d H' => W c d σ H') H μ BEq2 (m l s)
structure JA (X : Cx) (G : Gm) (W : WX) (es : List Expr) (t : TA) (m : MA) : Prop where
  pe : Takes X W → PA X es t
  sim : ∀ (σ : L2.St) (H : Hp) (μ : Mu) (l : Loc) (s : Sto), RL G G.K H μ σ l → RS G G.K H μ s → okP G G.K (t σ H) (fun c d H' => W c d σ H') H μ (RpA G G.K) (m l s)

theorem JW.jt {X : Cx} {G : Gm} {W : WX} {e : Expr} {t : TT} {m : MT} (h : JW X G W e t m) : JT X G W e t m := ⟨fun tk => (h.pe tk).pt, h.sim⟩

/-! ### names, constants -/
def mVar (i : Nat) : ME := fun l s => match l[i]? with
  | some (some d) => .ok d s
  | _ => .stuck
def mC (d : D) : ME := fun _ s => .ok d s

section
variable {X : Cx} {G : Gm} {W : WX}
theorem je_var (i : Nat) {x : Str} {pos : Pos} (hN : X.N[i]? = some x := by rfl) (hv : Vis X.env.scope x := by first | exact Or.inl rfl | exact Or.inr (Or.inl rfl) | exact Or.inr (Or.inr rfl)) (hd : (x == ("__debug__" : Str)) = false := by decide)
    (hcd : (x == ("__classdict__" : Str)) = false := by decide) : JE X G W (.Name x pos) (tVar i) (mVar i) := by
  refine ⟨fun tk => pe_var hN hv hd hcd, fun σ H μ l s hl hs => ?_⟩
  unfold mVar
  cases e : l[i]? with
  | none => trivial
  | some o =>
    cases o with
    | none => trivial
    | some d =>
      obtain ⟨v, h1, h2⟩ := hl.2 i d e
      exact fun Q q => ⟨v, h1, q v H μ Grow.refl hs h2⟩
theorem simC {v : V} {d : D} (h : ∀ H μ, Rp G G.K H μ v d) : ∀ (σ : L2.St) (H : Hp) (μ : Mu) (l : Loc) (s : Sto), RL G G.K H μ σ l → RS G G.K H μ s → okP G G.K (tC v σ H) (fun c d H' => W c d σ H') H μ (Rp G G.K) (mC d l s) :=
  fun σ H μ l s hl hs Q q => q v H μ Grow.refl hs (h H μ)
theorem je_int {i : Int} {j pos} : JE X G W (.Constant (.int i) j pos) (tC (.int i)) (mC (.int i)) := ⟨fun tk => pe_int, simC fun _ _ => .int i⟩
theorem je_bl {b : Bool} {j pos} : JE X G W (.Constant (.bool b) j pos) (tC (.bl b)) (mC (.bl b)) := ⟨fun tk => pe_bl, simC fun _ _ => .bl b⟩
theorem je_non {j pos} : JE X G W (.Constant .none j pos) (tC .non) (mC .non) := ⟨fun tk => pe_non, simC fun _ _ => .non⟩
theorem je_str {x : Str} {j pos} : JE X G W (.Constant (.str x) j pos) (tC (.str x)) (mC (.str x)) := ⟨fun tk => pe_str, simC fun _ _ => .str x⟩
/-- a global of the program: r by its value -/
theorem je_glob {x : Str} {v : V} {u : Value} {d : D} {pos : Pos} (hg : Gl X x) (hm : X.mg x = some u) (r : RelV v u) (h : ∀ H μ, Rp G G.K H μ v d) (hd : (x == ("__debug__" : Str)) = false := by decide) : JE X G W (.Name x pos) (tC v) (mC d) :=
  ⟨fun tk => pe_glob hg hm r hd, simC h⟩

/-! ### operators -/
def SimR (G : Gm) (K : PySem.W.Frag) (r : R2) (f : D → D → Sto → R D) : Prop :=
  ∀ (H : Hp) (μ : Mu) (s : Sto) (x y : V) (d e : D) (W : Value → Option Addr → Hp → Prop), RS G K H μ s → Rp G K H μ x d → Rp G K H μ y e → okP G K (r x y H) W H μ (Rp G K) (f d e s)
def mOp (f : D → D → Sto → R D) (ma mb : ME) : ME := fun l s => (ma l s).bind fun d s1 => (mb l s1).bind fun e s2 => f d e s2
theorem sim_op {r : R2} {f : D → D → Sto → R D} {ta tb : TE} {ma mb : ME} {a b : Expr} (hs : SimR G G.K r f) (ha : JE X G W a ta ma) (hb : JE X G W b tb mb) :
    ∀ (σ : L2.St) (H : Hp) (μ : Mu) (l : Loc) (s : Sto), RL G G.K H μ σ l → RS G G.K H μ s → okP G G.K (tOp r ta tb σ H) (fun c d H' => W c d σ H') H μ (Rp G G.K) (mOp f ma mb l s) := by
  intro σ H μ l s hl hs0
  refine (ha.sim σ H μ l s hl hs0).bind fun x H1 μ1 d s1 g1 r1 p1 => ?_
  refine (hb.sim σ H1 μ1 l s1 (hl.mono g1) r1).bind fun y H2 μ2 e s2 g2 r2 p2 => ?_
  exact hs H2 μ2 s2 x y d e _ r2 (p1.mono g2) p2
theorem je_op {op : Operator} {r : R2} {f : D → D → Sto → R D} {ta tb : TE} {ma mb : ME} {a b : Expr} {pos : Pos} (ho : OpR X (binaryOp op) r) (hs : SimR G G.K r f) (ha : JE X G W a ta ma) (hb : JE X G W b tb mb) : JE X G W (.BinOp a op b pos) (tOp r ta tb) (mOp f ma mb) :=
  ⟨fun tk => pe_op ho (ha.pe tk) (hb.pe tk), sim_op hs ha hb⟩
theorem je_cmp {op : CmpOp} {r : R2} {f : D → D → Sto → R D} {ta tb : TE} {ma mb : ME} {a b : Expr} {pos : Pos} (ho : OpR X (compareOp op) r) (hs : SimR G G.K r f) (ha : JE X G W a ta ma) (hb : JE X G W b tb mb)
    (hm : behindInMarks op b = false := by first | exact nomark _ | rfl) : JE X G W (.Compare a [op] [b] pos) (tOp r ta tb) (mOp f ma mb) :=
  ⟨fun tk => pe_cmpR ho (ha.pe tk) (hb.pe tk) hm, sim_op hs ha hb⟩
/-- a test by a bool -/
def mTest (m : ME) : MT := fun l s => (m l s).bind fun d s1 => match d with
  | .bl b => .ok b s1
  | _ => .stuck
theorem sim_test {t : TE} {m : ME} {e : Expr} (h : JE X G W e t m) :
    ∀ (σ : L2.St) (H : Hp) (μ : Mu) (l : Loc) (s : Sto), RL G G.K H μ σ l → RS G G.K H μ s → okP G G.K (tTest t σ H) (fun c d H' => W c d σ H') H μ BEq2 (mTest m l s) := by
  intro σ H μ l s hl hs0
  refine (h.sim σ H μ l s hl hs0).bind fun x H1 μ1 d s1 g1 r1 p1 => ?_
  cases p1 with
  | bl b => exact fun Q q => ⟨b, rfl, q b H1 μ1 Grow.refl r1 rfl⟩
  | _ => trivial
theorem jt_cmp {op : CmpOp} {r : R2} {f : D → D → Sto → R D} {ta tb : TE} {ma mb : ME} {a b : Expr} {pos : Pos} (ho : OpR X (compareOp op) r) (hs : SimR G G.K r f) (ha : JE X G W a ta ma) (hb : JE X G W b tb mb)
    (hm : behindInMarks op b = false := by first | exact nomark _ | rfl) : JT X G W (.Compare a [op] [b] pos) (tTest (tOp r ta tb)) (mTest (mOp f ma mb)) :=
  ⟨fun tk => pt_cmpR ho (ha.pe tk) (hb.pe tk) hm, sim_test (je_cmp (pos := pos) ho hs ha hb hm)⟩
/-- an expression that gives a bool -/
theorem jt_val {e : Expr} {t : TE} {m : ME} (h : JE X G W e t m) (he : ∀ whole, isTrue e X.env whole = (do let v ← whole; standAt e.pos; holding [v] (truthy v)) := by intro _; rfl) : JT X G W e (tB t) (mTest m) :=
  ⟨fun tk => pt_val (h.pe tk) he, sim_test h⟩

theorem OpR.or {f : Value → Value → Sem Value} {r r' : R2} (h : OpR X f r) (h' : OpR X f r') : OpR X f (fun x y H Q => r x y H Q ∨ r' x y H Q) := by
  intro pins s σ H x y v u Q I rx ry q
  rcases q with q | q
  · exact h pins s σ H x y v u Q I rx ry q
  · exact h' pins s σ H x y v u Q I rx ry q
theorem PE.or {e : Expr} {t t' : TE} (h : PE X e t) (h' : PE X e t') : PE X e (fun σ H Q => t σ H Q ∨ t' σ H Q) := by
  refine ⟨fun pins s σ H Q I q => ?_⟩
  rcases q with q | q
  · exact h.run pins s σ H Q I q
  · exact h'.run pins s σ H Q I q

/-! ### and, or, not, if -/
def mAnd (m n : MT) : MT := fun l s => (m l s).bind fun b s1 => match b with
  | true => n l s1
  | false => .ok false s1
def mOr (m n : MT) : MT := fun l s => (m l s).bind fun b s1 => match b with
  | true => .ok true s1
  | false => n l s1
def mNot (m : MT) : MT := fun l s => (m l s).bind fun b s1 => .ok (!b) s1
def mIf (c : MT) (m n : ME) : ME := fun l s => (c l s).bind fun b s1 => match b with
  | true => m l s1
  | false => n l s1
section
variable {a b c : Expr} {rest : List Expr} {pos : Pos} {ta tb : TT} {ma mb : MT} {te tf : TE} {me mf : ME}
theorem jw_and1 (h : JT X G W a ta ma) : JW X G W (.BoolOp .And [a] pos) ta ma := ⟨fun tk => pw_and1 (h.pe tk), h.sim⟩
theorem jw_or1 (h : JT X G W a ta ma) : JW X G W (.BoolOp .Or [a] pos) ta ma := ⟨fun tk => pw_or1 (h.pe tk), h.sim⟩
theorem jw_and (ha : JT X G W a ta ma) (hb : JW X G W (.BoolOp .And (b :: rest) pos) tb mb) : JW X G W (.BoolOp .And (a :: b :: rest) pos) (tAnd ta tb) (mAnd ma mb) := by
  refine ⟨fun tk => pw_and (ha.pe tk) (hb.pe tk), fun σ H μ l s hl hs => (ha.sim σ H μ l s hl hs).bind fun x H1 μ1 d s1 g1 r1 p1 => ?_⟩
  subst p1
  cases x with
  | true => simpa using hb.sim σ H1 μ1 l s1 (hl.mono g1) r1
  | false => exact fun Q q => by simpa using q false H1 μ1 Grow.refl r1 rfl
theorem jw_or (ha : JT X G W a ta ma) (hb : JW X G W (.BoolOp .Or (b :: rest) pos) tb mb) : JW X G W (.BoolOp .Or (a :: b :: rest) pos) (tOr ta tb) (mOr ma mb) := by
  refine ⟨fun tk => pw_or (ha.pe tk) (hb.pe tk), fun σ H μ l s hl hs => (ha.sim σ H μ l s hl hs).bind fun x H1 μ1 d s1 g1 r1 p1 => ?_⟩
  subst p1
  cases x with
  | true => exact fun Q q => by simpa using q true H1 μ1 Grow.refl r1 rfl
  | false => simpa using hb.sim σ H1 μ1 l s1 (hl.mono g1) r1
theorem jt_not (ha : JT X G W a ta ma) : JT X G W (.UnaryOp .Not a pos) (tNot ta) (mNot ma) := by
  refine ⟨fun tk => pt_not (ha.pe tk), fun σ H μ l s hl hs => (ha.sim σ H μ l s hl hs).bind fun x H1 μ1 d s1 g1 r1 p1 => ?_⟩
  subst p1
  exact fun Q q => q (!x) H1 μ1 Grow.refl r1 rfl
theorem je_if {c : Expr} (hc : JT X G W c ta ma) (ha : JE X G W a te me) (hb : JE X G W b tf mf) : JE X G W (.IfExp c a b pos) (tIf ta te tf) (mIf ma me mf) := by
  refine ⟨fun tk => pe_ifExp (hc.pe tk) (ha.pe tk) (hb.pe tk), fun σ H μ l s hl hs => (hc.sim σ H μ l s hl hs).bind fun x H1 μ1 d s1 g1 r1 p1 => ?_⟩
  subst p1
  cases x with
  | true => simpa using ha.sim σ H1 μ1 l s1 (hl.mono g1) r1
  | false => simpa using hb.sim σ H1 μ1 l s1 (hl.mono g1) r1
/-- a and b, a or b as values; all but the last are bools -/
def mAndV (m n : ME) : ME := fun l s => (m l s).bind fun d s1 => match d with
  | .bl true => n l s1
  | .bl false => .ok (.bl false) s1
  | _ => .stuck
def mOrV (m n : ME) : ME := fun l s => (m l s).bind fun d s1 => match d with
  | .bl true => .ok (.bl true) s1
  | .bl false => n l s1
  | _ => .stuck
def mNotV (m : ME) : ME := fun l s => (m l s).bind fun d s1 => match d with
  | .bl b => .ok (.bl (!b)) s1
  | _ => .stuck
theorem je_one {op} (h : JE X G W a te me) : JE X G W (.BoolOp op [a] pos) te me := ⟨fun tk => pe_one (h.pe tk), h.sim⟩
theorem je_and (ha : JE X G W a te me) (hb : JE X G W (.BoolOp .And (b :: rest) pos) tf mf) : JE X G W (.BoolOp .And (a :: b :: rest) pos) (tAndV te tf) (mAndV me mf) := by
  refine ⟨fun tk => pe_and (ha.pe tk) (hb.pe tk), fun σ H μ l s hl hs => (ha.sim σ H μ l s hl hs).bind fun x H1 μ1 d s1 g1 r1 p1 => ?_⟩
  cases p1 with
  | bl k =>
    cases k with
    | true =>
      have z := hb.sim σ H1 μ1 l s1 (hl.mono g1) r1
      have e : (fun Q : VK => ∃ c, V.bl true = V.bl c ∧ if c = true then tf σ H1 Q else Q (.bl false) H1) = tf σ H1 := by
        funext Q
        apply propext
        constructor
        · rintro ⟨c, h, q⟩; cases h; simpa using q
        · exact fun q => ⟨true, rfl, by simpa using q⟩
      show okP G G.K (fun Q : VK => ∃ c, V.bl true = V.bl c ∧ if c = true then tf σ H1 Q else Q (.bl false) H1) _ _ _ _ _
      rw [e]; exact z
    | false => exact fun Q q => ⟨false, rfl, by simpa using q _ H1 μ1 Grow.refl r1 (.bl false)⟩
  | _ => trivial
theorem je_or (ha : JE X G W a te me) (hb : JE X G W (.BoolOp .Or (b :: rest) pos) tf mf) : JE X G W (.BoolOp .Or (a :: b :: rest) pos) (tOrV te tf) (mOrV me mf) := by
  refine ⟨fun tk => pe_or (ha.pe tk) (hb.pe tk), fun σ H μ l s hl hs => (ha.sim σ H μ l s hl hs).bind fun x H1 μ1 d s1 g1 r1 p1 => ?_⟩
  cases p1 with
  | bl k =>
    cases k with
    | false =>
      have z := hb.sim σ H1 μ1 l s1 (hl.mono g1) r1
      have e : (fun Q : VK => ∃ c, V.bl false = V.bl c ∧ if c = true then Q (.bl true) H1 else tf σ H1 Q) = tf σ H1 := by
        funext Q
        apply propext
        constructor
        · rintro ⟨c, h, q⟩; cases h; simpa using q
        · exact fun q => ⟨false, rfl, by simpa using q⟩
      show okP G G.K (fun Q : VK => ∃ c, V.bl false = V.bl c ∧ if c = true then Q (.bl true) H1 else tf σ H1 Q) _ _ _ _ _
      rw [e]; exact z
    | true => exact fun Q q => ⟨true, rfl, by simpa using q _ H1 μ1 Grow.refl r1 (.bl true)⟩
  | _ => trivial
theorem je_not (ha : JE X G W a te me) : JE X G W (.UnaryOp .Not a pos) (tNotV te) (mNotV me) := by
  refine ⟨fun tk => pe_not (ha.pe tk), fun σ H μ l s hl hs => (ha.sim σ H μ l s hl hs).bind fun x H1 μ1 d s1 g1 r1 p1 => ?_⟩
  cases p1 with
  | bl k => exact fun Q q => ⟨k, rfl, q _ H1 μ1 Grow.refl r1 (.bl (!k))⟩
  | _ => trivial
end

/-! ### arguments, tuples, lists -/
def mNil : MA := fun _ s => .ok [] s
def mCons (m : ME) (ms : MA) : MA := fun l s => (m l s).bind fun d s1 => (ms l s1).bind fun ds s2 => .ok (d :: ds) s2
theorem ja_nil : JA X G W [] tNil mNil := ⟨fun tk => pa_nil, fun σ H μ l s hl hs Q q => q [] H μ Grow.refl hs .nil⟩
theorem ja_cons {e : Expr} {es : List Expr} {te : TE} {t : TA} {me : ME} {m : MA} (ha : JE X G W e te me) (hr : JA X G W es t m) (hs : starEach (e :: es) X.env = (false, eval e X.env) :: starEach es X.env := by rfl) : JA X G W (e :: es) (tCons te t) (mCons me m) := by
  refine ⟨fun tk => pa_cons (ha.pe tk) (hr.pe tk) hs, fun σ H μ l s hl hs => (ha.sim σ H μ l s hl hs).bind fun x H1 μ1 d s1 g1 r1 p1 => ?_⟩
  refine (hr.sim σ H1 μ1 l s1 (hl.mono g1) r1).bind fun xs H2 μ2 ds s2 g2 r2 p2 => ?_
  exact fun Q q => q (x :: xs) H2 μ2 Grow.refl r2 (.cons (p1.mono g2) p2)
def mTup (m : MA) : ME := fun l s => (m l s).bind fun ds s1 => if ds.length ≤ 100000 then .ok (.tup ds) s1 else .stuck
def mLst (m : MA) : ME := fun l s => (m l s).bind fun ds s1 => if ds.length ≤ 100000 then .ok (.lst ds) s1 else .stuck
/-- a new list that is tracked -/
def mNew (m : MA) : ME := fun l s => (m l s).bind fun ds s1 => if ds.length ≤ 100000 then .ok (.ref s1.length) (s1 ++ [.lst ds]) else .stuck
theorem le_line {n : Nat} (h : n ≤ 100000) : n ≤ sizeLine := Nat.le_trans h (by decide)
theorem lt_line {n : Nat} (h : n < 100000) : n < sizeLine := Nat.lt_of_lt_of_le h (by decide)
theorem newT {H : Hp} {μ : Mu} {s : Sto} {vs : List V} {ds : List D} (r : RS G G.K H μ s) (p : RpA G G.K H μ vs ds) {Q : VK} (q : ∀ b H' μ', Grow H μ H' μ' → RS G G.K H' μ' s → Rp G G.K H' μ' b (.tup ds) → Q b H') : ∀ a, H a = none → Q (.ref a) (upd H a (.tup vs)) :=
  fun a ha => q _ _ μ (r.galloc ha) (r.alloc ha) (.tup upd_same (r.notin ha) (p.mono (r.galloc ha)))
theorem newL {H : Hp} {μ : Mu} {s : Sto} {vs : List V} {ds : List D} (r : RS G G.K H μ s) (p : RpA G G.K H μ vs ds) {Q : VK} (q : ∀ b H' μ', Grow H μ H' μ' → RS G G.K H' μ' s → Rp G G.K H' μ' b (.lst ds) → Q b H') : ∀ a, H a = none → Q (.ref a) (upd H a (.lst vs)) :=
  fun a ha => q _ _ μ (r.galloc ha) (r.alloc ha) (.lst upd_same (r.notin ha) (p.mono (r.galloc ha)))
theorem newR {H : Hp} {μ : Mu} {s : Sto} {vs : List V} {ds : List D} (r : RS G G.K H μ s) (p : RpA G G.K H μ vs ds) {Q : VK} (q : ∀ b H' μ', Grow H μ H' μ' → RS G G.K H' μ' (s ++ [.lst ds]) → Rp G G.K H' μ' b (.ref s.length) → Q b H') : ∀ a, H a = none → Q (.ref a) (upd H a (.lst vs)) :=
  fun a ha => q _ _ (μ.add a) (r.gtrack ha) (r.track ha ⟨vs, upd_same, p.mono (r.gtrack ha)⟩) (.ref (by show (μ.tr ++ [a])[s.length]? = some a; rw [← r.len, List.getElem?_append_right (Nat.le_refl _), Nat.sub_self]; rfl))
theorem je_tup {es : List Expr} {t : TA} {m : MA} {x1} {pos : Pos} (h : JA X G W es t m) : JE X G W (.Tuple es x1 pos) (tTup t) (mTup m) := by
  refine ⟨fun tk => pe_tup (h.pe tk), fun σ H μ l s hl hs => (h.sim σ H μ l s hl hs).bind fun xs H1 μ1 ds s1 g1 r1 p1 => ?_⟩
  split
  · rename_i hz
    exact fun Q q => ⟨le_line (by rw [p1.length]; exact hz), newT r1 p1 q⟩
  · trivial
theorem je_lst {es : List Expr} {t : TA} {m : MA} {pos : Pos} (h : JA X G W es t m) : JE X G W (.List es pos) (tLst t) (mLst m) := by
  refine ⟨fun tk => pe_lst (h.pe tk), fun σ H μ l s hl hs => (h.sim σ H μ l s hl hs).bind fun xs H1 μ1 ds s1 g1 r1 p1 => ?_⟩
  split
  · rename_i hz
    exact fun Q q => ⟨le_line (by rw [p1.length]; exact hz), newL r1 p1 q⟩
  · trivial
theorem je_new {es : List Expr} {t : TA} {m : MA} {pos : Pos} (h : JA X G W es t m) : JE X G W (.List es pos) (tLst t) (mNew m) := by
  refine ⟨fun tk => pe_lst (h.pe tk), fun σ H μ l s hl hs => (h.sim σ H μ l s hl hs).bind fun xs H1 μ1 ds s1 g1 r1 p1 => ?_⟩
  split
  · rename_i hz
    exact fun Q q => ⟨le_line (by rw [p1.length]; exact hz), newR r1 p1 q⟩
  · trivial
end

/-! ### reading lists and tuples -/
/-- a list's items: frozen or tracked -/
def rdL (s : Sto) : D → Option (List D)
  | .lst xs => some xs
  | .ref n => match s[n]? with
    | some (.lst xs) => some xs
    | _ => none
  | _ => none
/-- .. a list's, a tuple's, the script's -/
def rdS (s : Sto) : D → Option (List D)
  | .lst xs => some xs
  | .tup xs => some xs
  | .scr xs => some (xs.map D.int)
  | .ref n => match s[n]? with
    | some (.lst xs) => some xs
    | _ => none
  | _ => none
section
variable {G : Gm} {K : PySem.W.Frag} {H : Hp} {μ : Mu} {s : Sto} {v : V} {d : D} {ds : List D}
theorem rdL_ok (r : RS G K H μ s) (p : Rp G K H μ v d) (h : rdL s d = some ds) : ∃ a vs, v = .ref a ∧ H a = some (.lst vs) ∧ RpA G K H μ vs ds := by
  cases p with
  | lst h1 h2 h3 =>
    simp only [rdL, Option.some.injEq] at h
    subst h
    exact ⟨_, _, rfl, h1, h3⟩
  | @ref n a h1 =>
    unfold rdL at h
    cases e : s[n]? with
    | none => simp only [e] at h; cases h
    | some o =>
      cases o with
      | lst xs =>
        simp only [e, Option.some.injEq] at h
        subst h
        obtain ⟨vs, q1, q2⟩ := r.at_ n a _ h1 e
        exact ⟨a, vs, rfl, q1, q2⟩
      | dK _ => simp only [e] at h; cases h
      | dT _ => simp only [e] at h; cases h
  | _ => cases h
theorem rdS_ok (r : RS G K H μ s) (p : Rp G K H μ v d) (h : rdS s d = some ds) : ∃ a vs, v = .ref a ∧ (SqL K H a vs ∨ SqT K H a vs) ∧ RpA G K H μ vs ds := by
  cases p with
  | lst h1 h2 h3 =>
    simp only [rdS, Option.some.injEq] at h
    subst h
    exact ⟨_, _, rfl, .inl (SqL.of h1), h3⟩
  | tup h1 h2 h3 =>
    simp only [rdS, Option.some.injEq] at h
    subst h
    exact ⟨_, _, rfl, .inr (SqT.of h1), h3⟩
  | tupK h1 h2 h3 h4 h5 h6 =>
    simp only [rdS, Option.some.injEq] at h
    subst h
    exact ⟨_, _, rfl, .inr (.inr ⟨_, _, _, h1, h2, h3, h4, h5⟩), h6⟩
  | @scr a o xs h1 h2 =>
    simp only [rdS, Option.some.injEq] at h
    subst h
    exact ⟨_, _, rfl, .inl (.inl (.inr ⟨o, h1⟩)), RpA.ints xs⟩
  | @scrK a o its n xs h1 h2 h3 h4 h5 h6 =>
    simp only [rdS, Option.some.injEq] at h
    subst h
    exact ⟨_, _, rfl, .inl (.inr ⟨o, its, n, h1, h2, h3, h4, h5, h6⟩), RpA.ints xs⟩
  | @ref n a h1 =>
    unfold rdS at h
    cases e : s[n]? with
    | none => simp only [e] at h; cases h
    | some o =>
      cases o with
      | lst xs =>
        simp only [e, Option.some.injEq] at h
        subst h
        obtain ⟨vs, q1, q2⟩ := r.at_ n a _ h1 e
        exact ⟨a, vs, rfl, .inl (SqL.of q1), q2⟩
      | dK _ => simp only [e] at h; cases h
      | dT _ => simp only [e] at h; cases h
  | _ => cases h
end
end DL


namespace DL
open PySem PySem.Spec PyProof.Rows L2

/-! ### ints -/
def mulOk (i j : Int) : Bool := decide (i.natAbs < 2 ^ 64) || decide (j.natAbs < 2 ^ 64) || decide (i.natAbs.log2 + j.natAbs.log2 < 1000000)
def divOk (j : Int) : Bool := decide (j ≠ 0) && decide (j.natAbs.log2 < 9000)
def powOk (i j : Int) : Bool := decide (0 ≤ j) && decide (j ≤ 1000000) && decide (i.natAbs < 2 ^ 64)
def subD : D → D → Sto → R D
  | .int i, .int j, s => .ok (.int (i - j)) s
  | _, _, _ => .stuck
def mulD : D → D → Sto → R D
  | .int i, .int j, s => if mulOk i j = true then .ok (.int (i * j)) s else .stuck
  | .lst xs, .int j, s => if xs.length * j.toNat ≤ 100000 ∧ -100000 ≤ j ∧ j ≤ 100000 then .ok (.lst (List.replicate j.toNat xs).flatten) s else .stuck
  | .tup xs, .int j, s => if xs ≠ [] ∧ 2 ≤ j ∧ j ≤ 1000 ∧ xs.length ≤ 1000 then .ok (.tup (List.replicate j.toNat xs).flatten) s else .stuck
  | _, _, _ => .stuck
/-- the new list is tracked -/
def mulN : D → D → Sto → R D
  | .lst xs, .int j, s => if xs.length * j.toNat ≤ 100000 ∧ -100000 ≤ j ∧ j ≤ 100000 then .ok (.ref s.length) (s ++ [.lst (List.replicate j.toNat xs).flatten]) else .stuck
  | _, _, _ => .stuck
def fdivD : D → D → Sto → R D
  | .int i, .int j, s => if divOk j = true then .ok (.int (i.fdiv j)) s else .stuck
  | _, _, _ => .stuck
def modD : D → D → Sto → R D
  | .int i, .int j, s => if j = 0 then .stuck else .ok (.int (i.fmod j)) s
  | _, _, _ => .stuck
def powD : D → D → Sto → R D
  | .int i, .int j, s => if powOk i j = true then .ok (.int (i ^ j.toNat)) s else .stuck
  | _, _, _ => .stuck
def shlD : D → D → Sto → R D
  | .int i, .int j, s => if powOk i j = true then .ok (.int (i * 2 ^ j.toNat)) s else .stuck
  | _, _, _ => .stuck
def shrD : D → D → Sto → R D
  | .int i, .int j, s => if 0 ≤ j then .ok (.int (i / 2 ^ j.toNat)) s else .stuck
  | _, _, _ => .stuck
def andD : D → D → Sto → R D
  | .int i, .int j, s => .ok (.int (Builtin.bitAnd i j)) s
  | _, _, _ => .stuck
/-- a + b -/
def addD (x y : D) (s : Sto) : R D := match x, y with
  | .int i, .int j => .ok (.int (i + j)) s
  | .str a, .str b => if a.length + b.length ≤ 100000 then .ok (.str (a ++ b)) s else .stuck
  | .tup xs, .tup ys => if xs ≠ [] ∧ xs.length + ys.length ≤ 100000 then .ok (.tup (xs ++ ys)) s else .stuck
  | x, y => match rdL s x, rdL s y with
    | some xs, some ys => if xs.length + ys.length ≤ 100000 then .ok (.lst (xs ++ ys)) s else .stuck
    | _, _ => .stuck

section
variable {X : Cx} {G : Gm} {K : PySem.W.Frag}
def rMulA (K : PySem.W.Frag) : R2 := fun x y H Q => rI CMul (fun i j => .int (i * j)) x y H Q ∨ rI CMulW (fun i j => .int (i * j)) x y H Q ∨ rRep x y H Q ∨ rRepT K x y H Q
theorem op_mulA (hK : X.K = K) : OpR X (binaryOp .Mult) (rMulA K) := hK ▸ DL.OpR.or op_mul (DL.OpR.or op_mulW (DL.OpR.or op_rep op_repT))
def CDivA (_ j : Int) : Prop := j ≠ 0 ∧ j.natAbs.log2 < 9000
theorem op_fdivA : OpR X (binaryOp .FloorDiv) (rI CDivA fun i j => .int (i.fdiv j)) := opI fun _ _ _ _ _ _ _ hc q => floordiv_int hc.1 q (.inl (PyProof.noPylong_of_log2 hc.2))
def rAddA (K : PySem.W.Frag) : R2 := fun x y H Q => rI0 (fun i j => .int (i + j)) x y H Q ∨ (∃ i j, x = .str i ∧ y = .str j ∧ i.length + j.length ≤ sizeLine ∧ Q (.str (i ++ j)) H) ∨ rCatT K x y H Q ∨ rCat x y H Q
theorem op_addA (hK : X.K = K) : OpR X (binaryOp .Add) (rAddA K) := hK ▸ DL.OpR.or op_add (DL.OpR.or op_add_str (DL.OpR.or op_catT op_cat))
theorem op_eqK (hK : X.K = K) (hu : X.A.units + 64 < cLine) : OpR X (compareOp .Eq) (rEqD K) := hK ▸ op_eqD hu
theorem op_neK (hK : X.K = K) (hu : X.A.units + 64 < cLine) : OpR X (compareOp .NotEq) (rNeD K) := hK ▸ op_neD hu

theorem now {t : VK → Prop} {W : Value → Option Addr → Hp → Prop} {H : Hp} {μ : Mu} {s : Sto} {v : V} {d : D} (r : RS G K H μ s) (p : Rp G K H μ v d) (h : ∀ Q : VK, Q v H → t Q) : okP G K t W H μ (Rp G K) (.ok d s) :=
  fun Q q => h Q (q v H μ Grow.refl r p)

theorem s_sub : SimR G K (rI0 fun i j => .int (i - j)) subD := by
  intro H μ s x y d e W r p q
  cases p <;> cases q <;> first | exact trivial | skip
  exact now r (.int _) fun Q z => ⟨_, _, rfl, rfl, z⟩
theorem newTG {H : Hp} {μ : Mu} {s : Sto} {vs : List V} {ds : List D} (r : RS G K H μ s) (p : RpA G K H μ vs ds) {Q : VK} (q : ∀ b H' μ', Grow H μ H' μ' → RS G K H' μ' s → Rp G K H' μ' b (.tup ds) → Q b H') : ∀ a, H a = none → Q (.ref a) (upd H a (.tup vs)) :=
  fun a ha => q _ _ μ (r.galloc ha) (r.alloc ha) (.tup upd_same (r.notin ha) (p.mono (r.galloc ha)))
theorem newLG {H : Hp} {μ : Mu} {s : Sto} {vs : List V} {ds : List D} (r : RS G K H μ s) (p : RpA G K H μ vs ds) {Q : VK} (q : ∀ b H' μ', Grow H μ H' μ' → RS G K H' μ' s → Rp G K H' μ' b (.lst ds) → Q b H') : ∀ a, H a = none → Q (.ref a) (upd H a (.lst vs)) :=
  fun a ha => q _ _ μ (r.galloc ha) (r.alloc ha) (.lst upd_same (r.notin ha) (p.mono (r.galloc ha)))
theorem newRG {H : Hp} {μ : Mu} {s : Sto} {vs : List V} {ds : List D} (r : RS G K H μ s) (p : RpA G K H μ vs ds) {Q : VK} (q : ∀ b H' μ', Grow H μ H' μ' → RS G K H' μ' (s ++ [.lst ds]) → Rp G K H' μ' b (.ref s.length) → Q b H') : ∀ a, H a = none → Q (.ref a) (upd H a (.lst vs)) :=
  fun a ha => q _ _ (μ.add a) (r.gtrack ha) (r.track ha ⟨vs, upd_same, p.mono (r.gtrack ha)⟩) (.ref (by show (μ.tr ++ [a])[s.length]? = some a; rw [← r.len, List.getElem?_append_right (Nat.le_refl _), Nat.sub_self]; rfl))
theorem mulOk_or {i j : Int} (h : mulOk i j = true) : CMul i j ∨ CMulW i j := by
  unfold mulOk at h
  simp only [Bool.or_eq_true, decide_eq_true_eq] at h
  rcases h with (h | h) | h
  · left; left; omega
  · left; right; omega
  · exact .inr h
theorem s_mulN : SimR G K (rMulA K) mulN := by
  intro H μ s x y d e W r p q
  cases p <;> cases q <;> first | exact trivial | skip
  rename_i a vs ds h1 h2 h3 j
  simp only [mulN]
  split
  · rename_i h
    obtain ⟨z1, z2, z3⟩ := h
    exact fun Q q => .inr (.inr (.inl ⟨_, j, vs, rfl, rfl, h1, by omega, by omega, le_line (by rw [h3.length]; exact z1), newRG r (h3.replicate _) q⟩))
  · trivial
theorem s_fdiv : SimR G K (rI CDivA fun i j => .int (i.fdiv j)) fdivD := by
  intro H μ s x y d e W r p q
  cases p <;> cases q <;> first | exact trivial | skip
  simp only [fdivD]
  split
  · rename_i h
    unfold divOk at h
    simp only [Bool.and_eq_true, decide_eq_true_eq] at h
    exact now r (.int _) fun Q z => ⟨_, _, rfl, rfl, h, z⟩
  · trivial
theorem s_mod : SimR G K (rI (fun _ j => j ≠ 0) fun i j => .int (i.fmod j)) modD := by
  intro H μ s x y d e W r p q
  cases p <;> cases q <;> first | exact trivial | skip
  simp only [modD]
  split
  · trivial
  · rename_i h
    exact now r (.int _) fun Q z => ⟨_, _, rfl, rfl, h, z⟩
theorem powOk_of {i j : Int} (h : powOk i j = true) : CPow i j := by
  unfold powOk at h
  simp only [Bool.and_eq_true, decide_eq_true_eq] at h
  exact ⟨h.1.1, h.1.2, h.2⟩
theorem s_pow : SimR G K (rI CPow fun i j => .int (i ^ j.toNat)) powD := by
  intro H μ s x y d e W r p q
  cases p <;> cases q <;> first | exact trivial | skip
  simp only [powD]
  split
  · rename_i h
    exact now r (.int _) fun Q z => ⟨_, _, rfl, rfl, powOk_of h, z⟩
  · trivial
theorem s_shl : SimR G K (rI CPow fun i j => .int (i * 2 ^ j.toNat)) shlD := by
  intro H μ s x y d e W r p q
  cases p <;> cases q <;> first | exact trivial | skip
  simp only [shlD]
  split
  · rename_i h
    exact now r (.int _) fun Q z => ⟨_, _, rfl, rfl, powOk_of h, z⟩
  · trivial
theorem s_shr : SimR G K (rI (fun _ j => 0 ≤ j) fun i j => .int (i / 2 ^ j.toNat)) shrD := by
  intro H μ s x y d e W r p q
  cases p <;> cases q <;> first | exact trivial | skip
  simp only [shrD]
  split
  · rename_i h
    exact now r (.int _) fun Q z => ⟨_, _, rfl, rfl, h, z⟩
  · trivial
theorem s_and : SimR G K (rI0 fun i j => .int (Builtin.bitAnd i j)) andD := by
  intro H μ s x y d e W r p q
  cases p <;> cases q <;> first | exact trivial | skip
  exact now r (.int _) fun Q z => ⟨_, _, rfl, rfl, z⟩
theorem addLists {H : Hp} {μ : Mu} {s : Sto} {x y : V} {d e : D} {W : Value → Option Addr → Hp → Prop} (r : RS G K H μ s) (p : Rp G K H μ x d) (q : Rp G K H μ y e) :
    okP G K (rAddA K x y H) W H μ (Rp G K) (match rdL s d, rdL s e with
      | some xs, some ys => if xs.length + ys.length ≤ 100000 then .ok (.lst (xs ++ ys)) s else .stuck
      | _, _ => .stuck) := by
  cases e1 : rdL s d with
  | none => trivial
  | some xs =>
    cases e2 : rdL s e with
    | none => trivial
    | some ys =>
      dsimp only
      split
      · rename_i hz
        obtain ⟨a, vs, rfl, h1, p1⟩ := rdL_ok r p e1
        obtain ⟨b, us, rfl, h2, p2⟩ := rdL_ok r q e2
        exact fun Q k => .inr (.inr (.inr ⟨a, b, vs, us, rfl, rfl, h1, h2, le_line (by rw [p1.length, p2.length]; exact hz), newLG r (p1.append p2) k⟩))
      · trivial
theorem SqT_of {H : Hp} {μ : Mu} {v : V} {ds : List D} (p : Rp G K H μ v (.tup ds)) : ∃ a vs, v = .ref a ∧ SqT K H a vs ∧ RpA G K H μ vs ds := by
  cases p with
  | tup h1 h2 h3 => exact ⟨_, _, rfl, SqT.of h1, h3⟩
  | tupK h1 h2 h3 h4 h5 h6 => exact ⟨_, _, rfl, .inr ⟨_, _, _, h1, h2, h3, h4, h5⟩, h6⟩
theorem RpA.nil_iff {H : Hp} {μ : Mu} {vs : List V} {ds : List D} (p : RpA G K H μ vs ds) : vs = [] ↔ ds = [] := by
  cases p <;> simp
theorem s_mul : SimR G K (rMulA K) mulD := by
  intro H μ s x y d e W r p q
  unfold mulD
  split
  · cases p; cases q
    split
    · rename_i h
      rcases mulOk_or h with h | h
      · exact now r (.int _) fun Q z => .inl ⟨_, _, rfl, rfl, h, z⟩
      · exact now r (.int _) fun Q z => .inr (.inl ⟨_, _, rfl, rfl, h, z⟩)
    · trivial
  · cases p
    rename_i a vs h1 h2 h3
    cases q
    split
    · rename_i h
      obtain ⟨z1, z2, z3⟩ := h
      exact fun Q q => .inr (.inr (.inl ⟨_, _, vs, rfl, rfl, h1, by omega, by omega, le_line (by rw [h3.length]; exact z1), newLG r (h3.replicate _) q⟩))
    · trivial
  · cases q
    split
    · rename_i h
      obtain ⟨hn, z1, z2, z3⟩ := h
      obtain ⟨a, vs, rfl, h1, p1⟩ := SqT_of p
      exact fun Q k => .inr (.inr (.inr ⟨a, _, vs, rfl, rfl, h1, fun z => hn (p1.nil_iff.mp z), z1, z2, by rw [p1.length]; exact z3, newTG r (p1.replicate _) k⟩))
    · trivial
  · trivial
theorem s_add : SimR G K (rAddA K) addD := by
  intro H μ s x y d e W r p q
  unfold addD
  split
  · cases p; cases q
    exact now r (.int _) fun Q z => .inl ⟨_, _, rfl, rfl, z⟩
  · cases p; cases q
    split
    · rename_i h
      exact now r (.str _) fun Q z => .inr (.inl ⟨_, _, rfl, rfl, le_line h, z⟩)
    · trivial
  · split
    · rename_i xs ys h
      obtain ⟨hn, hz⟩ := h
      obtain ⟨a, vs, rfl, h1, p1⟩ := SqT_of p
      obtain ⟨b, us, rfl, h2, p2⟩ := SqT_of q
      refine fun Q k => .inr (.inr (.inl ⟨a, b, vs, us, rfl, rfl, h1, h2, fun z => hn (p1.nil_iff.mp z), le_line (by rw [p1.length, p2.length]; exact hz), fun z => ?_, fun _ => newTG r (p1.append p2) k⟩))
      have : ys = [] := p2.nil_iff.mp z
      subst this
      rw [List.append_nil] at k
      exact k _ _ μ Grow.refl r p
    · trivial
  · exact addLists r p q

/-! ### unary -/
def mUn (f : D → Sto → R D) (m : ME) : ME := fun l s => (m l s).bind fun d s1 => f d s1
def negD : D → Sto → R D
  | .int i, s => .ok (.int (-i)) s
  | _, _ => .stuck
theorem je_neg {W : WX} {e : Expr} {t : TE} {m : ME} {pos : Pos} (h : JE X G W e t m) : JE X G W (.UnaryOp .USub e pos) (tUn (rU fun i => .int (-i)) t) (mUn negD m) := by
  refine ⟨fun tk => pe_un un_neg (h.pe tk), fun σ H μ l s hl hs => (h.sim σ H μ l s hl hs).bind fun x H1 μ1 d s1 g1 r1 p1 => ?_⟩
  cases p1 <;> first | exact trivial | skip
  exact now r1 (.int _) fun Q z => ⟨_, rfl, z⟩

/-! ### comparisons -/
def cmpD (p : Int → Int → Bool) : D → D → Sto → R D
  | .int i, .int j, s => .ok (.bl (p i j)) s
  | _, _, _ => .stuck
theorem s_cmp {p : Int → Int → Bool} : SimR G K (rI0 fun i j => .bl (p i j)) (cmpD p) := by
  intro H μ s x y d e W r p q
  cases p <;> cases q <;> first | exact trivial | skip
  exact now r (.bl _) fun Q z => ⟨_, _, rfl, rfl, z⟩
abbrev ltD := cmpD fun i j => decide (i < j)
abbrev leD := cmpD fun i j => decide (i ≤ j)
abbrev gtD := cmpD fun i j => decide (j < i)
abbrev geD := cmpD fun i j => decide (j ≤ i)
def isND : D → D → Sto → R D
  | .non, .non, s => .ok (.bl true) s
  | _, .non, s => .ok (.bl false) s
  | _, _, _ => .stuck
def notND : D → D → Sto → R D
  | .non, .non, s => .ok (.bl false) s
  | _, .non, s => .ok (.bl true) s
  | _, _, _ => .stuck
theorem s_isN : SimR G K (fun x y H Q => y = .non ∧ Q (.bl (decide (x = .non))) H) isND := by
  intro H μ s x y d e W r p q
  cases q <;> cases p <;> first | exact trivial | skip
  all_goals first
    | exact now r (.bl true) fun Q z => ⟨rfl, by simpa using z⟩
    | exact now r (.bl false) fun Q z => ⟨rfl, by simpa using z⟩
theorem s_notN : SimR G K (fun x y H Q => y = .non ∧ Q (.bl (!decide (x = .non))) H) notND := by
  intro H μ s x y d e W r p q
  cases q <;> cases p <;> first | exact trivial | skip
  all_goals first
    | exact now r (.bl true) fun Q z => ⟨rfl, by simpa using z⟩
    | exact now r (.bl false) fun Q z => ⟨rfl, by simpa using z⟩
end

/-! ### a < b < c -/
def mChain (f g : D → D → Sto → R D) (ma mb mc : ME) : ME := fun l s => (ma l s).bind fun x s1 => (mb l s1).bind fun y s2 => (f x y s2).bind fun z s3 => match z with
  | .bl true => (mc l s3).bind fun u s4 => g y u s4
  | .bl false => .ok (.bl false) s3
  | _ => .stuck
section
variable {X : Cx} {G : Gm} {W : WX} {a b c : Expr} {ta tb tc : TE} {ma mb mc : ME} {op op' : CmpOp} {r r' : R2} {f g : D → D → Sto → R D} {pos : Pos}
theorem sim_chain (hs : SimR G G.K r f) (hs' : SimR G G.K r' g) (ha : JE X G W a ta ma) (hb : JE X G W b tb mb) (hc : JE X G W c tc mc) :
    ∀ (σ : L2.St) (H : Hp) (μ : Mu) (l : Loc) (s : Sto), RL G G.K H μ σ l → RS G G.K H μ s → okP G G.K (tChain r r' ta tb tc σ H) (fun c d H' => W c d σ H') H μ (Rp G G.K) (mChain f g ma mb mc l s) := by
  intro σ H μ l s hl hs0
  refine (ha.sim σ H μ l s hl hs0).bind fun x H1 μ1 d s1 g1 r1 p1 => ?_
  refine (hb.sim σ H1 μ1 l s1 (hl.mono g1) r1).bind (u := fun y H2 Q => r x y H2 fun z H3 => ∃ k, z = .bl k ∧ (if k = true then tc σ H3 fun w' H4 => r' y w' H4 Q else Q (.bl false) H3)) fun y H2 μ2 e s2 g2 r2 p2 => ?_
  refine (hs H2 μ2 s2 x y d e _ r2 (p1.mono g2) p2).bind (u := fun z H3 Q => ∃ k, z = .bl k ∧ (if k = true then tc σ H3 fun w' H4 => r' y w' H4 Q else Q (.bl false) H3)) fun z H3 μ3 zd s3 g3 r3 p3 => ?_
  cases p3 <;> first | exact trivial | skip
  rename_i k
  cases k with
  | false => exact fun Q q => ⟨false, rfl, by simpa using q _ H3 μ3 Grow.refl r3 (.bl false)⟩
  | true =>
    have z := (hc.sim σ H3 μ3 l s3 (((hl.mono g1).mono g2).mono g3) r3).bind (u := fun w' H4 Q => r' y w' H4 Q) fun u H4 μ4 ud s4 g4 r4 p4 => hs' H4 μ4 s4 y u e ud _ r4 ((p2.mono g3).mono g4) p4
    have e : (fun Q : VK => ∃ k, V.bl true = V.bl k ∧ (if k = true then tc σ H3 fun w' H4 => r' y w' H4 Q else Q (.bl false) H3)) = fun Q : VK => tc σ H3 fun w' H4 => r' y w' H4 Q := by
      funext Q
      apply propext
      constructor
      · rintro ⟨c, h, q⟩; cases h; simpa using q
      · exact fun q => ⟨true, rfl, by simpa using q⟩
    show okP G G.K (fun Q : VK => ∃ k, V.bl true = V.bl k ∧ (if k = true then tc σ H3 fun w' H4 => r' y w' H4 Q else Q (.bl false) H3)) _ _ _ _ _
    rw [e]
    exact z
theorem je_chain (ho : OpR X (compareOp op) r) (hs : SimR G G.K r f) (ho' : OpR X (compareOp op') r') (hs' : SimR G G.K r' g) (ha : JE X G W a ta ma) (hb : JE X G W b tb mb) (hc : JE X G W c tc mc)
    (hm : lastMarks [op, op'] [b, c] = false := by with_unfolding_all rfl) : JE X G W (.Compare a [op, op'] [b, c] pos) (tChain r r' ta tb tc) (mChain f g ma mb mc) := ⟨fun tk => pe_chain ho ho' (ha.pe tk) (hb.pe tk) (hc.pe tk) hm, sim_chain hs hs' ha hb hc⟩
theorem jt_chain (ho : OpR X (compareOp op) r) (hs : SimR G G.K r f) (ho' : OpR X (compareOp op') r') (hs' : SimR G G.K r' g) (ha : JE X G W a ta ma) (hb : JE X G W b tb mb) (hc : JE X G W c tc mc)
    (hm : lastMarks [op, op'] [b, c] = false := by with_unfolding_all rfl) : JT X G W (.Compare a [op, op'] [b, c] pos) (tTest (tChain r r' ta tb tc)) (mTest (mChain f g ma mb mc)) :=
  ⟨fun tk => pt_chain ho ho' (ha.pe tk) (hb.pe tk) (hc.pe tk) hm, sim_test (je_chain (pos := pos) ho hs ho' hs' ha hb hc hm)⟩
end

/-! ### == -/
mutual
def toPy (s : Sto) : D → Option PyData
  | .non => some .none
  | .bl b => some (.bool b)
  | .int i => some (.int i)
  | .str x => if x.length ≤ 100000 then some (.str x) else none
  | .tup xs => (toPyA s xs).map .tuple
  | .lst xs => (toPyA s xs).map .list
  | .scr _ => none
  | .ref _ => none
  | .fn _ => none
def toPyA (s : Sto) : List D → Option (List PyData)
  | [] => some []
  | x :: xs => match toPy s x, toPyA s xs with
    | some y, some ys => some (y :: ys)
    | _, _ => none
end
/-- a tracked list at the top -/
def toPyR (s : Sto) : D → Option PyData
  | .ref n => match s[n]? with
    | some (.lst xs) => (toPyA s xs).map .list
    | _ => none
  | d => toPy s d
def eqB (s : Sto) (d e : D) : Option Bool := match toPyR s d, toPyR s e with
  | some a, some b => if SeqAt.shaped a = true ∧ SeqAt.shaped b = true then some (PyData.eqv a b) else none
  | _, _ => none
def eqD (d e : D) (s : Sto) : R D := match eqB s d e with
  | some b => .ok (.bl b) s
  | none => .stuck
def neD (d e : D) (s : Sto) : R D := match eqB s d e with
  | some b => .ok (.bl (!b)) s
  | none => .stuck
section
variable {X : Cx} {G : Gm} {K : PySem.W.Frag} {H : Hp} {μ : Mu} {s : Sto}
mutual
theorem toPy_dp : ∀ {v : V} {d : D} {a : PyData}, Rp G K H μ v d → toPy s d = some a → Dp K H v a
  | _, _, _, .non, h => by simp only [toPy, Option.some.injEq] at h; subst h; exact .non
  | _, _, _, .bl b, h => by simp only [toPy, Option.some.injEq] at h; subst h; exact .bl b
  | _, _, _, .int i, h => by simp only [toPy, Option.some.injEq] at h; subst h; exact .int i
  | _, _, _, .str x, h => by
    simp only [toPy] at h
    split at h
    · cases h; exact .str x
    · cases h
  | _, _, _, .tup h1 h2 h3, h => by
    simp only [toPy, Option.map_eq_some_iff] at h
    obtain ⟨ys, h, rfl⟩ := h
    exact .tup (SqT.of h1) (toPyA_dp h3 h)
  | _, _, _, .tupK h1 h2 h3 h4 h5 h6, h => by
    simp only [toPy, Option.map_eq_some_iff] at h
    obtain ⟨ys, h, rfl⟩ := h
    exact .tup (.inr ⟨_, _, _, h1, h2, h3, h4, h5⟩) (toPyA_dp h6 h)
  | _, _, _, .lst h1 h2 h3, h => by
    simp only [toPy, Option.map_eq_some_iff] at h
    obtain ⟨ys, h, rfl⟩ := h
    exact .lst (SqL.of h1) (toPyA_dp h3 h)
  | _, _, _, .scr _ _, h => by simp [toPy] at h
  | _, _, _, .scrK _ _ _ _ _ _, h => by simp [toPy] at h
  | _, _, _, .ref _, h => by simp [toPy] at h
  | _, _, _, .fn _, h => by simp [toPy] at h
theorem toPyA_dp : ∀ {vs : List V} {ds : List D} {as : List PyData}, RpA G K H μ vs ds → toPyA s ds = some as → DpAll K H vs as
  | _, _, _, .nil, h => by simp only [toPyA, Option.some.injEq] at h; subst h; exact .nil
  | _, _, _, .cons (d := d) (ds := ds) a r, h => by
    simp only [toPyA] at h
    cases e1 : toPy s d with
    | none => rw [e1] at h; cases h
    | some y =>
      cases e2 : toPyA s ds with
      | none => rw [e1, e2] at h; cases h
      | some ys =>
        rw [e1, e2] at h
        cases h
        exact .cons (toPy_dp a e1) (toPyA_dp r e2)
end
theorem toPyR_dp {v : V} {d : D} {a : PyData} (r : RS G K H μ s) (p : Rp G K H μ v d) (h : toPyR s d = some a) : Dp K H v a := by
  cases d with
  | ref n =>
    cases p with
    | @ref n q h1 =>
      unfold toPyR at h
      cases e : s[n]? with
      | none => simp only [e] at h; cases h
      | some o =>
        cases o with
        | lst xs =>
          simp only [e, Option.map_eq_some_iff] at h
          obtain ⟨ys, h, rfl⟩ := h
          obtain ⟨vs, q1, q2⟩ := r.at_ n q _ h1 e
          exact .lst (SqL.of q1) (toPyA_dp q2 h)
        | dK _ => simp only [e] at h; cases h
        | dT _ => simp only [e] at h; cases h
  | _ => exact toPy_dp (s := s) p h
theorem s_eq : SimR G K (rEqD K) eqD := by
  intro H μ s x y d e W r p q
  unfold eqD eqB
  cases e1 : toPyR s d with
  | none => trivial
  | some a =>
    cases e2 : toPyR s e with
    | none => trivial
    | some b =>
      dsimp only
      by_cases h : SeqAt.shaped a = true ∧ SeqAt.shaped b = true
      · rw [if_pos h]
        exact now r (.bl _) fun Q z => ⟨a, b, toPyR_dp r p e1, toPyR_dp r q e2, h.1, h.2, z⟩
      · rw [if_neg h]; trivial
theorem s_ne : SimR G K (rNeD K) neD := by
  intro H μ s x y d e W r p q
  unfold neD eqB
  cases e1 : toPyR s d with
  | none => trivial
  | some a =>
    cases e2 : toPyR s e with
    | none => trivial
    | some b =>
      dsimp only
      by_cases h : SeqAt.shaped a = true ∧ SeqAt.shaped b = true
      · rw [if_pos h]
        exact now r (.bl _) fun Q z => ⟨a, b, toPyR_dp r p e1, toPyR_dp r q e2, h.1, h.2, z⟩
      · rw [if_neg h]; trivial
end
end DL


namespace DL
open PySem PySem.Spec PyProof.Rows L2

/-! ### xs[i] -/
def ixD (d e : D) (s : Sto) : R D := match e with
  | .int i => match d with
    | .str x => if x.length ≤ 100000 then match atI x.cps.toList i with
        | some c => .ok (.str ⟨#[c]⟩) s
        | none => .stuck
      else .stuck
    | d => match rdS s d with
      | some ds => match atI ds i with
        | some v => .ok v s
        | none => .stuck
      | none => .stuck
  | _ => .stuck
section
variable {X : Cx} {G : Gm} {K : PySem.W.Frag} {H : Hp} {μ : Mu} {s : Sto} {W : WX}
theorem atI_rel {vs : List V} {ds : List D} {i : Int} {d : D} (r : RpA G K H μ vs ds) (h : atI ds i = some d) : ∃ v, atI vs i = some v ∧ Rp G K H μ v d := by
  unfold atI at h ⊢
  rw [r.length]
  cases e : ixN ds.length i with
  | none => rw [e] at h; cases h
  | some j =>
    rw [e] at h
    exact r.get h
theorem s_ix : SimR G K (rIx K) ixD := by
  intro H μ s x y d e W r p q
  unfold ixD
  cases e with
  | int i =>
    cases q
    have key : okP G K (rIx K x (.int i) H) W H μ (Rp G K) (match rdS s d with
      | some ds => match atI ds i with
        | some v => .ok v s
        | none => .stuck
      | none => .stuck) := by
      cases e1 : rdS s d with
      | none => trivial
      | some ds =>
        dsimp only
        cases e2 : atI ds i with
        | none => trivial
        | some z =>
          obtain ⟨a, vs, rfl, h1, p1⟩ := rdS_ok r p e1
          obtain ⟨v, h2, h3⟩ := atI_rel p1 e2
          rcases h1 with h1 | h1
          · exact now r h3 fun Q q => .inl ⟨a, vs, i, v, rfl, rfl, h1, h2, q⟩
          · exact now r h3 fun Q q => .inr (.inl ⟨a, vs, i, v, rfl, rfl, h1, h2, q⟩)
    cases d with
    | str z =>
      cases p
      dsimp only
      split
      · rename_i hz
        cases e2 : atI z.cps.toList i with
        | none => trivial
        | some c => exact now r (.str _) fun Q q => .inr (.inr ⟨z, i, c, rfl, rfl, le_line hz, e2, q⟩)
      · trivial
    | _ => exact key
  | _ => trivial
theorem je_ix {a b : Expr} {ta tb : TE} {ma mb : ME} {pos : Pos} (ha : JE X G W a ta ma) (hb : JE X G W b tb mb) (hp : PlainIx b := by exact fun _ _ => rfl) (hK : X.K = G.K := by rfl) : JE X G W (.Subscript a b pos) (tOp (rIx G.K) ta tb) (mOp ixD ma mb) :=
  ⟨fun tk => pe_ix (hK ▸ ix_seq) (ha.pe tk) (hb.pe tk) hp, sim_op s_ix ha hb⟩

/-! ### xs[a:b] -/
theorem getItem_tuple_whole {prog : Program} {w : World} {A : Around} {E : Value → Shared → Prop} {s : Shared} {t sl : Addr} {items : Array Value} {vl vu : Value} {lo hi : Option Int} {Q : Value → Shared → Prop} (ht : IsTup s.heap t items) (hs : s.heap.IsSliceOf sl vl vu .none) (pl : IsPart vl lo) (pu : IsPart vu hi)
    (hw : HT.sIx items.size 0 lo = 0 ∧ HT.sIx items.size items.size hi = items.size) (h : Q (.ref t) s) : wpAny (model prog w) A (getItem (.ref t) (.ref sl)) Q E s := by
  obtain ⟨os, hos, hcs, hds⟩ := id hs
  have hTs : s.TypeIs (.ref sl) "slice" := ⟨os, hos, hcs⟩
  unfold getItem
  try with_reducible refine wpAny_holding ?_
  first | refine wpAny_bind (wpAny_pure ?_) | skip
  refine wpAny_bind (wpAny_sequenceKey ht.typeIs (by decide) ?_)
  refine wpAny_bind (wpAny_callSpecial?_slot (name := Str.ofString "__getitem__") ht.typeIs PyProof.Rows.slot_tuple_getitem
    (wpAny_call_entry PyProof.Rows.slot_tuple_getitem ht.typeIs entry_tuple_getitem ?_ (args_tuple_getitem _ _)))
  show wpAny _ _ (Builtin.Tuple.tupleItemsOf (.ref t) >>= _) _ _ s
  refine wpAny_bind (tupleItemsOf_ ht ?_)
  refine wpAny_bind (wpAny_typeOf hTs ?_)
  rw [if_pos (by decide)]
  refine wpAny_bind (HT.sliceApplied_gen hs pl pu ?_)
  have hyes : (((HT.sIx items.size 0 lo : Nat) : Int) == 0 && (1 : Int) == 1 && (HT.sIx items.size items.size hi - HT.sIx items.size 0 lo) == items.size) = true := by
    rw [hw.1, hw.2]; simp
  show wpAny _ _ (if (((HT.sIx items.size 0 lo : Nat) : Int) == 0 && (1 : Int) == 1 && (HT.sIx items.size items.size hi - HT.sIx items.size 0 lo) == items.size) = true then _ else _) _ _ s
  rw [if_pos hyes]
  refine wpAny_bind (wpAny_bind (wpAny_typeOf ht.typeIs (wpAny_pure ?_)))
  rw [if_pos (by decide)]
  first
    | exact wpAny_bind (wpAny_pure (wpAny_bind (wpAny_pure (wpAny_pure ⟨_, rfl, wpAny_pure h⟩))))
    | exact wpAny_pure ⟨_, rfl, wpAny_pure h⟩
    | exact wpAny_bind (wpAny_rule (wpAny_pure ⟨_, rfl, wpAny_pure h⟩))
def rSlW (K : PySem.W.Frag) : V → Option Int → Option Int → Hp → VK → Prop := fun x lo hi H Q => ∃ a xs, x = .ref a ∧ SqT K H a xs ∧ (HT.sIx xs.length 0 lo = 0 ∧ HT.sIx xs.length xs.length hi = xs.length) ∧ Q (.ref a) H
theorem sl_tupW : SlR X (rSlW X.K) := by
  intro pins s σ H x v vl vu lo hi sl Q I rx hs pl pu h
  obtain ⟨a, xs, rfl, hx, hw, q⟩ := h
  cases rx
  obtain ⟨its, r, ht, hz⟩ := I.tuple hx
  have hlen : its.toArray.size = xs.length := by rw [List.size_toArray]; exact r.length.symm
  refine ⟨"tuple", _, PyProof.Rows.slot_tuple_getitem.lookup, ht.typeIs, ?_⟩
  exact getItem_tuple_whole ht hs pl pu (by rw [hlen]; exact hw) ⟨.ref a, H, I, rfl, q⟩
def rSlA (K : PySem.W.Frag) : V → Option Int → Option Int → Hp → VK → Prop := fun x lo hi H Q => rSlL K x lo hi H Q ∨ rSlT K x lo hi H Q ∨ rSlW K x lo hi H Q ∨ rSlS x lo hi H Q
theorem sl_any (hK : X.K = K) : SlR X (rSlA K) := hK ▸ sl_list.or (sl_tup.or (sl_tupW.or sl_str))
def cutD (xs : List D) (lo hi : Option Int) : List D := (xs.drop (HT.sIx xs.length 0 lo)).take (HT.sIx xs.length xs.length hi - HT.sIx xs.length 0 lo)
theorem RpA.cut {vs : List V} {ds : List D} (r : RpA G K H μ vs ds) (lo hi : Option Int) : RpA G K H μ (cutV vs lo hi) (cutD ds lo hi) := by
  unfold cutV cutD
  rw [r.length]
  exact (r.drop _).take _
abbrev MO := Loc → Sto → R (Option Int)
structure JO (X : Cx) (G : Gm) (W : WX) (e : Option Expr) (t : TO) (m : MO) : Prop where
  pe : Takes X W → PO X e t
  sim : ∀ (σ : L2.St) (H : Hp) (μ : Mu) (l : Loc) (s : Sto), RL G G.K H μ σ l → RS G G.K H μ s → okP G G.K (t σ H) (fun c d H' => W c d σ H') H μ (fun _ _ b a => b = a) (m l s)
def mNoPart : MO := fun _ s => .ok none s
def mPart (m : ME) : MO := fun l s => (m l s).bind fun d s1 => match d with
  | .int i => .ok (some i) s1
  | _ => .stuck
theorem jo_none : JO X G W none tNoPart mNoPart := ⟨fun tk => po_none, fun σ H μ l s hl hs Q q => q none H μ Grow.refl hs rfl⟩
theorem jo_some {e : Expr} {t : TE} {m : ME} (h : JE X G W e t m) : JO X G W (some e) (tPart t) (mPart m) := by
  refine ⟨fun tk => po_some (h.pe tk), fun σ H μ l s hl hs => (h.sim σ H μ l s hl hs).bind fun x H1 μ1 d s1 g1 r1 p1 => ?_⟩
  cases p1 with
  | int i => exact fun Q q => ⟨i, rfl, q _ H1 μ1 Grow.refl r1 rfl⟩
  | _ => trivial
def slD (d : D) (lo hi : Option Int) (s : Sto) : R D := match d with
  | .str x => if x.length ≤ 100000 then .ok (.str (cutS x lo hi)) s else .stuck
  | .tup xs => .ok (.tup (cutD xs lo hi)) s
  | d => match rdL s d with
    | some xs => .ok (.lst (cutD xs lo hi)) s
    | none => .stuck
/-- the new list tracked -/
def slN (d : D) (lo hi : Option Int) (s : Sto) : R D := match rdL s d with
    | some xs => .ok (.ref s.length) (s ++ [.lst (cutD xs lo hi)])
    | none => .stuck
def mSl (f : D → Option Int → Option Int → Sto → R D) (m : ME) (ml mh : MO) : ME := fun l s => (m l s).bind fun d s1 => (ml l s1).bind fun lo s2 => (mh l s2).bind fun hi s3 => f d lo hi s3
theorem cutD_whole {xs : List D} {lo hi : Option Int} (h : HT.sIx xs.length 0 lo = 0 ∧ HT.sIx xs.length xs.length hi = xs.length) : cutD xs lo hi = xs := by
  unfold cutD
  rw [h.1, h.2, List.drop_zero, Nat.sub_zero, List.take_length]
theorem je_slF {f : D → Option Int → Option Int → Sto → R D} {e : Expr} {lo hi : Option Expr} {t : TE} {tl th : TO} {m : ME} {ml mh : MO} {p2 pos : Pos}
    (hf : ∀ (H : Hp) (μ : Mu) (s : Sto) (v : V) (d : D) (lo hi : Option Int) (W : Value → Option Addr → Hp → Prop), RS G G.K H μ s → Rp G G.K H μ v d → okP G G.K (rSlA G.K v lo hi H) W H μ (Rp G G.K) (f d lo hi s))
    (h : JE X G W e t m) (hl : JO X G W lo tl ml) (hh : JO X G W hi th mh) (hK : X.K = G.K) : JE X G W (.Subscript e (.Slice lo hi none p2) pos) (tSl (rSlA G.K) t tl th) (mSl f m ml mh) := by
  refine ⟨fun tk => pe_slice (sl_any hK) (h.pe tk) (hl.pe tk) (hh.pe tk), fun σ H μ l s hl0 hs => (h.sim σ H μ l s hl0 hs).bind fun x H1 μ1 d s1 g1 r1 p1 => ?_⟩
  refine (hl.sim σ H1 μ1 l s1 (hl0.mono g1) r1).bind fun lo H2 μ2 lo' s2 g2 r2 p2 => ?_
  subst p2
  refine (hh.sim σ H2 μ2 l s2 ((hl0.mono g1).mono g2) r2).bind fun hi H3 μ3 hi' s3 g3 r3 p3 => ?_
  subst p3
  exact hf H3 μ3 s3 x d lo hi _ r3 ((p1.mono g2).mono g3)
theorem s_sl (H : Hp) (μ : Mu) (s : Sto) (v : V) (d : D) (lo hi : Option Int) (W : Value → Option Addr → Hp → Prop) (r : RS G K H μ s) (p : Rp G K H μ v d) : okP G K (rSlA K v lo hi H) W H μ (Rp G K) (slD d lo hi s) := by
  have key : okP G K (rSlA K v lo hi H) W H μ (Rp G K) (match rdL s d with
    | some xs => .ok (.lst (cutD xs lo hi)) s
    | none => .stuck) := by
    cases e : rdL s d with
    | none => trivial
    | some xs =>
      obtain ⟨a, vs, rfl, h1, p1⟩ := rdL_ok r p e
      exact fun Q q => .inl ⟨a, vs, rfl, SqL.of h1, newLG r (p1.cut lo hi) q⟩
  unfold slD
  cases d with
  | str x =>
    cases p
    dsimp only
    split
    · rename_i hz
      exact now r (.str _) fun Q q => .inr (.inr (.inr ⟨x, rfl, le_line hz, q⟩))
    · trivial
  | tup xs =>
    obtain ⟨a, vs, rfl, h1, p1⟩ := SqT_of p
    dsimp only
    by_cases hw : HT.sIx vs.length 0 lo = 0 ∧ HT.sIx vs.length vs.length hi = vs.length
    · rw [cutD_whole (by rw [← p1.length]; exact hw)]
      exact now r p fun Q q => .inr (.inr (.inl ⟨a, vs, rfl, h1, hw, q⟩))
    · exact fun Q q => .inr (.inl ⟨a, vs, rfl, h1, hw, newTG r (p1.cut lo hi) q⟩)
  | _ => exact key
theorem s_slN (H : Hp) (μ : Mu) (s : Sto) (v : V) (d : D) (lo hi : Option Int) (W : Value → Option Addr → Hp → Prop) (r : RS G K H μ s) (p : Rp G K H μ v d) : okP G K (rSlA K v lo hi H) W H μ (Rp G K) (slN d lo hi s) := by
  unfold slN
  cases e : rdL s d with
  | none => trivial
  | some xs =>
    obtain ⟨a, vs, rfl, h1, p1⟩ := rdL_ok r p e
    exact fun Q q => .inl ⟨a, vs, rfl, SqL.of h1, newRG r (p1.cut lo hi) q⟩
theorem je_sl {e : Expr} {lo hi : Option Expr} {t : TE} {tl th : TO} {m : ME} {ml mh : MO} {p2 pos : Pos} (h : JE X G W e t m) (hl : JO X G W lo tl ml) (hh : JO X G W hi th mh) (hK : X.K = G.K := by rfl) : JE X G W (.Subscript e (.Slice lo hi none p2) pos) (tSl (rSlA G.K) t tl th) (mSl slD m ml mh) := je_slF s_sl h hl hh hK
theorem je_slN {e : Expr} {lo hi : Option Expr} {t : TE} {tl th : TO} {m : ME} {ml mh : MO} {p2 pos : Pos} (h : JE X G W e t m) (hl : JO X G W lo tl ml) (hh : JO X G W hi th mh) (hK : X.K = G.K := by rfl) : JE X G W (.Subscript e (.Slice lo hi none p2) pos) (tSl (rSlA G.K) t tl th) (mSl slN m ml mh) := je_slF s_slN h hl hh hK

/-! ### built-in functions -/
def SimC (G : Gm) (K : PySem.W.Frag) (r : List V → Hp → VK → Prop) (f : List D → Sto → R D) : Prop :=
  ∀ (H : Hp) (μ : Mu) (s : Sto) (vs : List V) (ds : List D) (W : Value → Option Addr → Hp → Prop), RS G K H μ s → RpA G K H μ vs ds → okP G K (r vs H) W H μ (Rp G K) (f ds s)
def mCB (f : List D → Sto → R D) (m : MA) : ME := fun l s => (m l s).bind f
theorem sim_cb {r : List V → Hp → VK → Prop} {f : List D → Sto → R D} {es : List Expr} {t : TA} {m : MA} (hs : SimC G G.K r f) (ha : JA X G W es t m) :
    ∀ (σ : L2.St) (H : Hp) (μ : Mu) (l : Loc) (s : Sto), RL G G.K H μ σ l → RS G G.K H μ s → okP G G.K (tCB r t σ H) (fun c d H' => W c d σ H') H μ (Rp G G.K) (mCB f m l s) :=
  fun σ H μ l s hl hs0 => (ha.sim σ H μ l s hl hs0).bind fun xs H1 μ1 ds s1 g1 r1 p1 => hs H1 μ1 s1 xs ds _ r1 p1
section
variable {x : Str} {p pos : Pos} {e : Expr} {es : List Expr} {t : TA} {m : MA} {id T : String} {r : List V → Hp → VK → Prop} {f : List D → Sto → R D}
theorem je_cb (hc : CallR X (.builtin id) r) (hs : SimC G G.K r f) (hm : X.mg x = none) (ha : JA X G W (e :: es) t m) (hg : Gl X x := by rfl) (hv : bootBuiltins x = some (.builtin id) := by decide +kernel) (hn : x ≠ "__name__" := by decide) (hdb : (x == ("__debug__" : Str)) = false := by decide)
    (he : starEach (e :: es) X.env = (false, eval e X.env) :: starEach es X.env := by rfl) (hpl : (backTo pos (starEach es X.env)).any (·.1) = false := by rfl) : JE X G W (.Call (.Name x p) (e :: es) [] pos) (tCB r t) (mCB f m) :=
  ⟨fun tk => pe_callB hc hg hm hv (ha.pe tk) hn hdb he hpl, sim_cb hs ha⟩
theorem je_ct (hc : CallR X (.type T) r) (hs : SimC G G.K r f) (hm : X.mg x = none) (ha : JA X G W (e :: es) t m) (hg : Gl X x := by rfl) (hv : bootBuiltins x = some (.type T) := by decide +kernel) (hn : x ≠ "__name__" := by decide) (hdb : (x == ("__debug__" : Str)) = false := by decide)
    (he : starEach (e :: es) X.env = (false, eval e X.env) :: starEach es X.env := by rfl) (hpl : (backTo pos (starEach es X.env)).any (·.1) = false := by rfl) : JE X G W (.Call (.Name x p) (e :: es) [] pos) (tCB r t) (mCB f m) :=
  ⟨fun tk => pe_callTy hc hg hm hv (ha.pe tk) hn hdb he hpl, sim_cb hs ha⟩
end

theorem CallR.or {f : Value} {r r' : List V → Hp → VK → Prop} (h : CallR X f r) (h' : CallR X f r') : CallR X f (fun xs H Q => r xs H Q ∨ r' xs H Q) := by
  intro pins s σ H xs us Q I rx q
  rcases q with q | q
  · exact h pins s σ H xs us Q I rx q
  · exact h' pins s σ H xs us Q I rx q

def absF : List D → Sto → R D
  | [.int i], s => .ok (.int (if i < 0 then -i else i)) s
  | _, _ => .stuck
theorem sc_abs : SimC G K (fun xs H Q => ∃ i, xs = [.int i] ∧ Q (.int (if i < 0 then -i else i)) H) absF := by
  intro H μ s vs ds W r p
  unfold absF
  split
  · cases p with | cons a b => cases a; cases b; exact now r (.int _) fun Q q => ⟨_, rfl, q⟩
  · trivial
def intF : List D → Sto → R D
  | [.int i], s => .ok (.int i) s
  | [.bl b], s => .ok (.int (if b then 1 else 0)) s
  | _, _ => .stuck
theorem sc_int : SimC G K (fun xs H Q => (∃ i, xs = [.int i] ∧ Q (.int i) H) ∨ ∃ k, xs = [.bl k] ∧ Q (.int (if k then 1 else 0)) H) intF := by
  intro H μ s vs ds W r p
  unfold intF
  split
  · cases p with | cons a b => cases a; cases b; exact now r (.int _) fun Q q => .inl ⟨_, rfl, q⟩
  · cases p with | cons a b => cases a; cases b; exact now r (.int _) fun Q q => .inr ⟨_, rfl, q⟩
  · trivial
def max2F : List D → Sto → R D
  | [.int i, .int j], s => .ok (.int (if j > i then j else i)) s
  | _, _ => .stuck
theorem sc_max2 : SimC G K (fun xs H Q => ∃ i j, xs = [.int i, .int j] ∧ Q (.int (if j > i then j else i)) H) max2F := by
  intro H μ s vs ds W r p
  unfold max2F
  split
  · cases p with | cons a b => cases a; cases b with | cons a b => cases a; cases b; exact now r (.int _) fun Q q => ⟨_, _, rfl, q⟩
  · trivial
def min2F : List D → Sto → R D
  | [.int i, .int j], s => .ok (.int (if j < i then j else i)) s
  | _, _ => .stuck
theorem sc_min2 : SimC G K (fun xs H Q => ∃ i j, xs = [.int i, .int j] ∧ Q (.int (if j < i then j else i)) H) min2F := by
  intro H μ s vs ds W r p
  unfold min2F
  split
  · cases p with | cons a b => cases a; cases b with | cons a b => cases a; cases b; exact now r (.int _) fun Q q => ⟨_, _, rfl, q⟩
  · trivial
theorem RpA.one {vs : List V} {d : D} (p : RpA G K H μ vs [d]) : ∃ v, vs = [v] ∧ Rp G K H μ v d := by
  cases p with | cons a b => cases b; exact ⟨_, rfl, a⟩
theorem RpA.two {vs : List V} {d e : D} (p : RpA G K H μ vs [d, e]) : ∃ v u, vs = [v, u] ∧ Rp G K H μ v d ∧ Rp G K H μ u e := by
  cases p with | cons a b => cases b with | cons c b => cases b; exact ⟨_, _, rfl, a, c⟩
def lenF : List D → Sto → R D
  | [.str x], s => if x.length ≤ 100000 then .ok (.int x.length) s else .stuck
  | [d], s => match rdS s d with
    | some xs => .ok (.int xs.length) s
    | none => .stuck
  | _, _ => .stuck
def rLenA (K : PySem.W.Frag) : List V → Hp → VK → Prop := fun xs H Q => (∃ z, xs = [.str z] ∧ z.length ≤ sizeLine ∧ Q (.int z.length) H) ∨ (∃ p ys, xs = [.ref p] ∧ (SqL K H p ys ∨ SqT K H p ys) ∧ Q (.int ys.length) H)
theorem call_lenA (hK : X.K = K) : CallR X (.builtin "len") (rLenA K) := hK ▸ DL.CallR.or call_len_str call_len_seq
def rTupleA (K : PySem.W.Frag) : List V → Hp → VK → Prop := fun xs H Q => ∃ p ys, xs = [.ref p] ∧ ((SqL K H p ys ∧ ∀ l, H l = none → Q (.ref l) (upd H l (.tup ys))) ∨ (SqT K H p ys ∧ Q (.ref p) H))
def rListA (K : PySem.W.Frag) : List V → Hp → VK → Prop := fun xs H Q => ∃ p ys, xs = [.ref p] ∧ (SqL K H p ys ∨ SqT K H p ys) ∧ ∀ l, H l = none → Q (.ref l) (upd H l (.lst ys))
theorem call_tupleK (hK : X.K = K) : CallR X (.type "tuple") (rTupleA K) := hK ▸ call_tuple_of
theorem call_listK (hK : X.K = K) : CallR X (.type "list") (rListA K) := hK ▸ call_list_of
theorem cr_allK (hK : X.K = K) (hc : X.calm = true) : CallR X (.builtin "all") (rAll K) := hK ▸ cr_all hc
theorem cr_anyK (hK : X.K = K) (hc : X.calm = true) : CallR X (.builtin "any") (rAny K) := hK ▸ cr_any hc
theorem cr_sumK (hK : X.K = K) (hc : X.calm = true) : CallR X (.builtin "sum") (rSum K) := hK ▸ cr_sum hc
theorem call_isiK2 (hK : X.K = K) : CallR X (.builtin "isinstance") (rIsi K) := hK ▸ call_isi
theorem sc_len : SimC G K (rLenA K) lenF := by
  intro H μ s vs ds W r p
  unfold lenF
  split
  · obtain ⟨v, rfl, p0⟩ := p.one
    cases p0
    split
    · rename_i hz
      exact now r (.int _) fun Q q => .inl ⟨_, rfl, le_line hz, q⟩
    · trivial
  · rename_i d hd
    obtain ⟨v, rfl, p0⟩ := p.one
    cases e : rdS _ d with
    | none => trivial
    | some xs =>
      obtain ⟨a, vs, rfl, h1, p1⟩ := rdS_ok r p0 e
      exact now r (.int _) fun Q q => .inr ⟨a, vs, rfl, h1, by rw [p1.length]; exact q⟩
  · trivial
def tupleF : List D → Sto → R D
  | [.tup xs], s => .ok (.tup xs) s
  | [d], s => match rdL s d with
    | some xs => .ok (.tup xs) s
    | none => .stuck
  | _, _ => .stuck
theorem sc_tuple : SimC G K (rTupleA K) tupleF := by
  intro H μ s vs ds W r p
  unfold tupleF
  split
  · obtain ⟨v, rfl, p0⟩ := p.one
    obtain ⟨a, vs, rfl, h1, p1⟩ := SqT_of p0
    exact now r p0 fun Q q => ⟨a, vs, rfl, .inr ⟨h1, q⟩⟩
  · rename_i d hd
    obtain ⟨v, rfl, p0⟩ := p.one
    cases e : rdL _ d with
    | none => trivial
    | some xs =>
      obtain ⟨a, vs, rfl, h1, p1⟩ := rdL_ok r p0 e
      exact fun Q q => ⟨a, vs, rfl, .inl ⟨SqL.of h1, newTG r p1 q⟩⟩
  · trivial
def listF : List D → Sto → R D
  | [d], s => match rdS s d with
    | some xs => .ok (.lst xs) s
    | none => .stuck
  | _, _ => .stuck
def listN : List D → Sto → R D
  | [d], s => match rdS s d with
    | some xs => .ok (.ref s.length) (s ++ [.lst xs])
    | none => .stuck
  | _, _ => .stuck
theorem sc_list : SimC G K (rListA K) listF := by
  intro H μ s vs ds W r p
  unfold listF
  split
  · rename_i d
    obtain ⟨v, rfl, p0⟩ := p.one
    cases e : rdS _ d with
    | none => trivial
    | some xs =>
      obtain ⟨a, vs, rfl, h1, p1⟩ := rdS_ok r p0 e
      exact fun Q q => ⟨a, vs, rfl, h1, newLG r p1 q⟩
  · trivial
theorem sc_listN : SimC G K (rListA K) listN := by
  intro H μ s vs ds W r p
  unfold listN
  split
  · rename_i d
    obtain ⟨v, rfl, p0⟩ := p.one
    cases e : rdS _ d with
    | none => trivial
    | some xs =>
      obtain ⟨a, vs, rfl, h1, p1⟩ := rdS_ok r p0 e
      exact fun Q q => ⟨a, vs, rfl, h1, newRG r p1 q⟩
  · trivial
/-- all boolsD, all intsD -/
def boolsD : List D → Option (List Bool)
  | [] => some []
  | .bl b :: r => (boolsD r).map (b :: ·)
  | _ :: _ => none
def intsD : List D → Option (List Int)
  | [] => some []
  | .int b :: r => (intsD r).map (b :: ·)
  | _ :: _ => none
theorem boolsD_rel : ∀ {vs : List V} {ds : List D} {bs : List Bool}, RpA G K H μ vs ds → boolsD ds = some bs → vs = bs.map V.bl
  | _, _, bs, .nil, h => by simp only [boolsD, Option.some.injEq] at h; subst h; rfl
  | _, _, bs, .cons (ds := ds) a r, h => by
    cases a <;> first | (simp [boolsD] at h; done) | skip
    simp only [boolsD, Option.map_eq_some_iff] at h
    obtain ⟨cs, h, rfl⟩ := h
    rw [List.map_cons, ← boolsD_rel r h]
theorem intsD_rel : ∀ {vs : List V} {ds : List D} {bs : List Int}, RpA G K H μ vs ds → intsD ds = some bs → vs = bs.map V.int
  | _, _, bs, .nil, h => by simp only [intsD, Option.some.injEq] at h; subst h; rfl
  | _, _, bs, .cons (ds := ds) a r, h => by
    cases a <;> first | (simp [intsD] at h; done) | skip
    simp only [intsD, Option.map_eq_some_iff] at h
    obtain ⟨cs, h, rfl⟩ := h
    rw [List.map_cons, ← intsD_rel r h]
def allF : List D → Sto → R D
  | [d], s => match (rdL s d).bind boolsD with
    | some bs => .ok (.bl (bs.all id)) s
    | none => .stuck
  | _, _ => .stuck
def anyF : List D → Sto → R D
  | [d], s => match (rdL s d).bind boolsD with
    | some bs => .ok (.bl (bs.any id)) s
    | none => .stuck
  | _, _ => .stuck
theorem sc_all : SimC G K (rAll K) allF := by
  intro H μ s vs ds W r p
  unfold allF
  split
  · rename_i d
    obtain ⟨v, rfl, p0⟩ := p.one
    cases e : (rdL _ d).bind boolsD with
    | none => trivial
    | some bs =>
      obtain ⟨xs, e1, e2⟩ := Option.bind_eq_some_iff.mp e
      obtain ⟨a, vs, rfl, h1, p1⟩ := rdL_ok r p0 e1
      have := boolsD_rel p1 e2
      subst this
      exact now r (.bl _) fun Q q => ⟨a, bs, rfl, SqL.of h1, q⟩
  · trivial
theorem sc_any : SimC G K (rAny K) anyF := by
  intro H μ s vs ds W r p
  unfold anyF
  split
  · rename_i d
    obtain ⟨v, rfl, p0⟩ := p.one
    cases e : (rdL _ d).bind boolsD with
    | none => trivial
    | some bs =>
      obtain ⟨xs, e1, e2⟩ := Option.bind_eq_some_iff.mp e
      obtain ⟨a, vs, rfl, h1, p1⟩ := rdL_ok r p0 e1
      have := boolsD_rel p1 e2
      subst this
      exact now r (.bl _) fun Q q => ⟨a, bs, rfl, SqL.of h1, q⟩
  · trivial
def sumF : List D → Sto → R D
  | [d], s => match (rdL s d).bind intsD with
    | some bs => .ok (.int bs.sum) s
    | none => .stuck
  | _, _ => .stuck
theorem sc_sum : SimC G K (rSum K) sumF := by
  intro H μ s vs ds W r p
  unfold sumF
  split
  · rename_i d
    obtain ⟨v, rfl, p0⟩ := p.one
    cases e : (rdL _ d).bind intsD with
    | none => trivial
    | some bs =>
      obtain ⟨xs, e1, e2⟩ := Option.bind_eq_some_iff.mp e
      obtain ⟨a, vs, rfl, h1, p1⟩ := rdL_ok r p0 e1
      have := intsD_rel p1 e2
      subst this
      exact now r (.int _) fun Q q => ⟨a, bs, rfl, SqL.of h1, q⟩
  · trivial

/-! ### isinstance -/
/-- the type's name of a value -/
def tyD : D → Option String
  | .non => some "NoneType"
  | .bl _ => some "bool"
  | .int _ => some "int"
  | .str _ => some "str"
  | .tup _ => some "tuple"
  | .lst _ => some "list"
  | .scr _ => some "list"
  | _ => none
def isiF (T : String) (d : D) (s : Sto) : R D := match tyD d with
  | some a => .ok (.bl (a == T || (a == "bool" && T == "int"))) s
  | none => .stuck
def mIsi (T : String) (m : ME) : ME := fun l s => (m l s).bind fun d s1 => isiF T d s1
theorem tyx {v : V} {d : D} {a : String} (p : Rp G K H μ v d) (h : tyD d = some a) : TyX K H v (.type a) := by
  cases p <;> simp only [tyD, Option.some.injEq, reduceCtorEq] at h <;> subst h
  · exact .base .non
  · exact .base (.bl _)
  · exact .base (.int _)
  · exact .base (.str _)
  · exact .base (.tup (by assumption))
  · exact .kTuple (by assumption) (by assumption)
  · exact .base (.lst (by assumption))
  · exact .base (.frz (by assumption))
  · exact .kList (by assumption) (by assumption)
/-- isinstance(x, T), T the name of a built-in type -/
theorem je_isi {e : Expr} {te : TE} {me : ME} {T : String} {x : Str} {p p2 pos : Pos} (hT : T = "int" ∨ T = "bool" ∨ T = "str" ∨ T = "tuple" ∨ T = "list") (hm : X.mg "isinstance" = none) (hm2 : X.mg x = none) (h : JE X G W e te me) (hv2 : bootBuiltins x = some (.type T) := by decide +kernel)
    (hg : Gl X "isinstance" := by rfl) (hg2 : Gl X x := by rfl) (hn2 : x ≠ "__name__" := by decide) (hd2 : (x == ("__debug__" : Str)) = false := by decide)
    (he1 : starEach [.Name x p2] X.env = (false, eval (.Name x p2) X.env) :: starEach [] X.env := by rfl) (he : starEach [e, .Name x p2] X.env = (false, eval e X.env) :: starEach [.Name x p2] X.env := by rfl) (hpl : (backTo pos (starEach [.Name x p2] X.env)).any (·.1) = false := by rfl) (hK : X.K = G.K := by rfl) :
    JE X G W (.Call (.Name "isinstance" p) [e, .Name x p2] [] pos) (tCB (rIsi G.K) (tCons te (tCons (tC (.ty T)) tNil))) (mIsi T me) := by
  refine ⟨fun tk => pe_callB (call_isiK2 hK) hg hm (by decide +kernel) (pa_cons (h.pe tk) (pa_cons (pe_bltn hg2 hm2 hv2 (v := .ty T) rfl hn2 hd2) pa_nil he1) he) (by decide) (by decide) he hpl, fun σ H μ l s hl hs => (h.sim σ H μ l s hl hs).bind fun v H1 μ1 d s1 g1 r1 p1 => ?_⟩
  unfold isiF
  cases e1 : tyD d with
  | none => trivial
  | some a =>
    have hk : kitB a T = some (a == T || (a == "bool" && T == "int")) := by
      cases d <;> simp only [tyD, Option.some.injEq, reduceCtorEq] at e1 <;> subst e1 <;> rcases hT with rfl | rfl | rfl | rfl | rfl <;> decide +kernel
    exact now r1 (.bl _) fun Q q => ⟨v, .ty T, .type a, .type T, _, rfl, .ty T, tyx p1 e1, kit_ty hk, q⟩

/-! ### calls of defs -/
/-- the promise: what the mirror says -/
def spD (G : Gm) (K : PySem.W.Frag) (n : Nat) (f : MF) : Sp := fun vs H Q E => vs.length = n ∧ ∃ (μ : Mu) (ds : List D) (s : Sto), RpA G K H μ vs ds ∧ RS G K H μ s ∧
  match f ds s with
  | .ok d s' => ∀ v H' μ', Grow H μ H' μ' → RS G K H' μ' s' → Rp G K H' μ' v d → Q v H'
  | .ex x s' => ∀ C dd H' μ', Grow H μ H' μ' → RS G K H' μ' s' → G.cl x.cls = some C → Fld G K H' μ' x dd → E (.ref C) dd H'
  | .stuck => False
def mCall (n : Nat) (f : MF) (m : MA) : ME := fun l s => (m l s).bind fun ds s1 => if ds.length = n then f ds s1 else .stuck
theorem okP_call {n : Nat} {f : MF} {vs : List V} {ds : List D} {σ : L2.St} (r : RS G K H μ s) (p : RpA G K H μ vs ds) (hn : ds.length = n) : okP G K (fun Q => spD G K n f vs H Q (WE W σ)) (fun c d H' => W c d σ H') H μ (Rp G K) (f ds s) := by
  cases e : f ds s with
  | ok d s' => exact fun Q q => ⟨by rw [p.length]; exact hn, μ, ds, s, p, r, by rw [e]; exact fun v H' μ' g r' p' => q v H' μ' g r' p'⟩
  | ex x s' => exact fun Q q => ⟨by rw [p.length]; exact hn, μ, ds, s, p, r, by rw [e]; exact fun C dd H' μ' g r' hc hf => q C dd H' μ' g r' hc hf⟩
  | stuck => trivial
end
end DL


namespace DL
open PySem PySem.Spec PyProof.Rows L2

/-- a def of the program: what it is worth -/
structure FnD (P : Program) (w : World) (K : PySem.W.Frag) (mg : Str → Option Value) (base : Heap) (G : Gm) (k : Nat) (x : String) (n : Nat) (f : MF) : Prop where
  ex : ∃ (a : Addr) (fd : FuncData) (ps : List Str), FnOk P w K mg base (L2.CX P w) k a fd ps (spD G K n f) ∧ mg x = some (.ref a) ∧ G.fn x = some a ∧ PySem.W.keepIn K (.ref a) = true ∧ Binds K fd ps []
theorem FnD.mono {P : Program} {w : World} {K : PySem.W.Frag} {mg : Str → Option Value} {base : Heap} {G : Gm} {j k : Nat} {x : String} {n : Nat} {f : MF} (F : FnD P w K mg base G j x n f) (h : j ≤ k) : FnD P w K mg base G k x n f := by
  obtain ⟨a, fd, ps, h1, h2⟩ := F.ex
  exact ⟨a, fd, ps, h1.mono h, h2⟩
section
variable {X : Cx} {G : Gm} {K : PySem.W.Frag} {H : Hp} {μ : Mu} {s : Sto} {W : WX} {k : Nat}
theorem je_call {x : String} {n : Nat} {f : MF} {e : Expr} {es : List Expr} {t : TA} {m : MA} {p pos : Pos} (F : FnD X.prog X.w G.K X.mg X.base G k x n f) (hr : Room k X.A) (ha : JA X G W (e :: es) t m) (hg : Gl X (x : Str) := by rfl)
    (hdb : ((x : Str) == ("__debug__" : Str)) = false := by decide) (he : starEach (e :: es) X.env = (false, eval e X.env) :: starEach es X.env := by rfl) (hpl : (backTo pos (starEach es X.env)).any (·.1) = false := by rfl) (hK : X.K = G.K := by rfl) :
    JE X G W (.Call (.Name x p) (e :: es) [] pos) (tCallS (spD G G.K n f) (WE W) t) (mCall n f m) := by
  obtain ⟨a, fd, ps, F1, h1, _, h2, h3⟩ := F.ex
  rw [← hK] at h2 h3
  have F1 : FnOk X.prog X.w X.K X.mg X.base (L2.CX X.prog X.w) k a fd ps (spD G G.K n f) := by rw [hK]; exact F1
  refine ⟨fun tk => pe_callS F1 hr hg h1 h2 h3 (passAt tk) (ha.pe tk) hdb he hpl, fun σ H μ l s hl hs => (ha.sim σ H μ l s hl hs).bind fun xs H1 μ1 ds s1 g1 r1 p1 => ?_⟩
  split
  · rename_i hn
    exact okP_call r1 p1 hn
  · trivial
/-- a def as a value -/
theorem je_fn {x : String} {n : Nat} {f : MF} {pos : Pos} (F : FnD X.prog X.w G.K X.mg X.base G k x n f) (hg : Gl X (x : Str) := by rfl) (hd : ((x : Str) == ("__debug__" : Str)) = false := by decide) : JE X G W (.Name x pos) (tC (.ref (G.fA x))) (mC (.fn x)) := by
  obtain ⟨a, fd, ps, F1, h1, h4, h2, h3⟩ := F.ex
  have e : G.fA x = a := by unfold Gm.fA; rw [h4]; rfl
  rw [e]
  exact ⟨fun tk => pe_glob hg h1 rfl hd, simC fun _ _ => .fn h4⟩
/-- a constant of the program's top -/
structure GlD (K : PySem.W.Frag) (mg : Str → Option Value) (G : Gm) (x : String) (d : D) : Prop where
  ex : ∃ u, mg x = some u ∧ RelV (G.cst x) u ∧ ∀ H μ, Rp G K H μ (G.cst x) d
theorem je_glb {x : String} {d : D} {pos : Pos} (F : GlD G.K X.mg G x d) (hg : Gl X (x : Str) := by rfl) (hd : ((x : Str) == ("__debug__" : Str)) = false := by decide) : JE X G W (.Name x pos) (tC (G.cst x)) (mC d) := by
  obtain ⟨u, h1, h2, h3⟩ := F.ex
  exact ⟨fun tk => pe_glob hg h1 h2 hd, simC h3⟩
/-- a call of a name of the def's own that holds one of some defs -/
def mCallV (i : Nat) (fs : List (String × Nat × MF)) (m : MA) : ME := fun l s => match l[i]? with
  | some (some (.fn x)) => match fs.lookup x with
    | some (n, f) => mCall n f m l s
    | none => .stuck
  | _ => .stuck
def tCallV (i : Nat) (C : Addr → Sp → Prop) (E : L2.St → XK) (t : TA) : TE := fun σ H Q => ∃ a sp, C a sp ∧ σ[i]? = some (some (.ref a)) ∧ t σ H fun vs H1 => sp vs H1 Q (E σ)
theorem pe_callV {C : Addr → Sp → Prop} {E : L2.St → XK} {i : Nat} {x : Str} {e : Expr} {es : List Expr} {t : TA} {p pos : Pos} (hC : ∀ a sp, C a sp → ∃ fd ps, FnOk X.prog X.w X.K X.mg X.base (L2.CX X.prog X.w) k a fd ps sp ∧ PySem.W.keepIn X.K (.ref a) = true ∧ Binds X.K fd ps []) (hr : Room k X.A) (hN : X.N[i]? = some x) (hv : Vis X.env.scope x)
    (hx : ∀ σ, PassesAt (L2.CX X.prog X.w) X σ (E σ)) (ha : PA X (e :: es) t)
    (hdb : (x == ("__debug__" : Str)) = false := by decide) (hcd : (x == ("__classdict__" : Str)) = false := by decide)
    (he : starEach (e :: es) X.env = (false, eval e X.env) :: starEach es X.env := by rfl) (hpl : (backTo pos (starEach es X.env)).any (·.1) = false := by rfl) : PE X (.Call (.Name x p) (e :: es) [] pos) (tCallV i C E t) := by
  refine ⟨fun pins s σ H Q I h => ?_⟩
  obtain ⟨a, sp, hc, hs, ht⟩ := h
  obtain ⟨fd, ps, F, hk, hb⟩ := hC a sp hc
  refine wpAny_Call_Name_kw (thn ((pe_var (pos := p) hN hv hdb hcd).run pins s σ H (fun v H1 => v = .ref a ∧ H1 = H) I ⟨.ref a, hs, rfl, rfl⟩) fun u s1 ⟨v, H1, I1, r1, q1⟩ => ?_)
  obtain ⟨rfl, rfl⟩ := q1
  cases r1
  refine PySem.W.callWith_K (h₀ := X.base) I.ok.mod.kin hk (thn (ha.run pos pins s1 σ _ _ I1 ht) fun us s2 ⟨vs, H2, I2, r, q⟩ => ⟨I2.kIn, ?_⟩) he hpl
  exact run_fnS F hr hb (hx σ) I2 r q
inductive FsOk (P : Program) (w : World) (K : PySem.W.Frag) (mg : Str → Option Value) (base : Heap) (G : Gm) (k : Nat) : List (String × Nat × MF) → Prop
  | nil : FsOk P w K mg base G k []
  | cons {x : String} {n : Nat} {f : MF} {fs : List (String × Nat × MF)} : FnD P w K mg base G k x n f → FsOk P w K mg base G k fs → FsOk P w K mg base G k ((x, n, f) :: fs)
theorem FsOk.get {P : Program} {w : World} {K : PySem.W.Frag} {mg : Str → Option Value} {base : Heap} {G : Gm} {k : Nat} : ∀ {fs : List (String × Nat × MF)} {x : String} {n : Nat} {f : MF}, FsOk P w K mg base G k fs → fs.lookup x = some (n, f) → FnD P w K mg base G k x n f
  | _, _, _, _, .nil, h => by simp at h
  | (y, m, g) :: fs, x, n, f, .cons a r, h => by
    rw [List.lookup_cons] at h
    split at h
    · rename_i e
      have e := eq_of_beq e
      cases h
      subst e
      exact a
    · exact FsOk.get r h
theorem je_callV {i : Nat} {fs : List (String × Nat × MF)} {x : Str} {e : Expr} {es : List Expr} {t : TA} {m : MA} {p pos : Pos} (F : FsOk X.prog X.w G.K X.mg X.base G k fs) (hr : Room k X.A) (ha : JA X G W (e :: es) t m) (hN : X.N[i]? = some x := by rfl) (hv : Vis X.env.scope x := by first | exact Or.inl rfl | exact Or.inr (Or.inl rfl) | exact Or.inr (Or.inr rfl))
    (hdb : (x == ("__debug__" : Str)) = false := by decide) (hcd : (x == ("__classdict__" : Str)) = false := by decide)
    (he : starEach (e :: es) X.env = (false, eval e X.env) :: starEach es X.env := by rfl) (hpl : (backTo pos (starEach es X.env)).any (·.1) = false := by rfl) (hK : X.K = G.K := by rfl) :
    JE X G W (.Call (.Name x p) (e :: es) [] pos) (tCallV i (fun a sp => ∃ y n f, fs.lookup y = some (n, f) ∧ G.fn y = some a ∧ sp = spD G G.K n f) (WE W) t) (mCallV i fs m) := by
  refine ⟨fun tk => pe_callV (fun a sp ⟨y, n, f, h1, h2, h3⟩ => ?_) hr hN hv (passAt tk) (ha.pe tk) hdb hcd he hpl, fun σ H μ l s hl hs => ?_⟩
  · obtain ⟨b, fd, ps, F1, _, h5, h6, h7⟩ := (F.get h1).ex
    rw [h2] at h5
    cases h5
    subst h3
    rw [hK]
    exact ⟨fd, ps, F1, h6, h7⟩
  · unfold mCallV
    cases e1 : l[i]? with
    | none => trivial
    | some o =>
      cases o with
      | none => trivial
      | some d =>
        obtain ⟨v, hv1, hv2⟩ := hl.2 i d e1
        cases hv2 <;> first | trivial | skip
        rename_i y a hy
        dsimp only
        cases e2 : fs.lookup y with
        | none => trivial
        | some nf =>
          obtain ⟨n, f⟩ := nf
          dsimp only
          have z : okP G G.K (fun Q => t σ H fun vs H1 => spD G G.K n f vs H1 Q (WE W σ)) (fun c d H' => W c d σ H') H μ (Rp G G.K) (mCall n f m l s) := by
            refine (ha.sim σ H μ l s hl hs).bind fun xs H1 μ1 ds s1 g1 r1 p1 => ?_
            split
            · rename_i hn
              exact okP_call r1 p1 hn
            · trivial
          cases e3 : mCall n f m l s with
          | ok d s' => rw [e3] at z; exact fun Q q => ⟨a, _, ⟨y, n, f, e2, hy, rfl⟩, hv1, z Q q⟩
          | ex x s' => rw [e3] at z; exact fun Q q => ⟨a, _, ⟨y, n, f, e2, hy, rfl⟩, hv1, z Q q⟩
          | stuck => trivial

/-! ### what a loop walks -/
def RI (G : Gm) (K : PySem.W.Frag) (H : Hp) (μ : Mu) (J : It) (ds : List D) : Prop := ∀ H' μ', Mono H μ H' μ' → ∀ s, RS G K H' μ' s → ∀ i : Nat,
  (∀ d, ds[i]? = some d → J.go i H' ∧ ∀ x H'', J.yld i H' x H'' → Grow H' μ' H'' μ' ∧ RS G K H'' μ' s ∧ Rp G K H'' μ' x d) ∧ (ds.length ≤ i → J.stop i H')
abbrev MI := Loc → Sto → R (List D)
structure JI (X : Cx) (G : Gm) (W : WX) (tg it : Expr) (t : TI) (m : MI) : Prop where
  pe : Takes X W → PI X tg it t
  sim : ∀ (σ : L2.St) (H : Hp) (μ : Mu) (l : Loc) (s : Sto), RL G G.K H μ σ l → RS G G.K H μ s → okP G G.K (t σ H) (fun c d H' => W c d σ H') H μ (RI G G.K) (m l s)
theorem PI.or {tg it : Expr} {t t' : TI} (h : PI X tg it t) (h' : PI X tg it t') : PI X tg it (fun σ H R => t σ H R ∨ t' σ H R) := by
  refine ⟨fun pins s σ H R I q => ?_⟩
  rcases q with q | q
  · exact h.run pins s σ H R I q
  · exact h'.run pins s σ H R I q
theorem fresh_step {H : Hp} {μ : Mu} {s : Sto} (r : RS G K H μ s) {T : Addr} {vs : List V} {ds : List D} (hT : H T = none) (p : RpA G K H μ vs ds) : Grow H μ (upd H T (.tup vs)) μ ∧ RS G K (upd H T (.tup vs)) μ s ∧ Rp G K (upd H T (.tup vs)) μ (.ref T) (.tup ds) :=
  ⟨r.galloc hT, r.alloc hT, .tup upd_same (r.notin hT) (p.mono (r.galloc hT))⟩
/-- a list or tuple that stands -/
def stands : D → Option (List D)
  | .lst xs => some xs
  | .tup xs => some xs
  | .scr xs => some (xs.map D.int)
  | _ => none
def mIter (m : ME) : MI := fun l s => (m l s).bind fun d s1 => match stands d with
  | some xs => .ok xs s1
  | none => .stuck
theorem standsL {v : V} {d : D} {ds : List D} (p : Rp G K H μ v d) (hn : ∀ ys, d ≠ .tup ys) (h : stands d = some ds) : ∃ a vs, v = .ref a ∧ (∀ H' μ', Mono H μ H' μ' → SqL K H' a vs) ∧ RpA G K H μ vs ds := by
  cases p with
  | lst h1 h2 h3 =>
    simp only [stands, Option.some.injEq] at h
    subst h
    exact ⟨_, _, rfl, fun H' μ' g => SqL.of (g.keep _ _ h1 h2), h3⟩
  | tup _ _ _ => exact absurd rfl (hn _)
  | tupK _ _ _ _ _ _ => exact absurd rfl (hn _)
  | @scr a o xs h1 h2 =>
    simp only [stands, Option.some.injEq] at h
    subst h
    exact ⟨_, _, rfl, fun H' μ' g => .inl (.inr ⟨o, g.keep _ _ h1 h2⟩), RpA.ints xs⟩
  | @scrK a o its n xs h1 h2 h3 h4 h5 h6 =>
    simp only [stands, Option.some.injEq] at h
    subst h
    exact ⟨_, _, rfl, fun H' μ' g => .inr ⟨o, its, n, h1, h2, h3, h4, h5, h6⟩, RpA.ints xs⟩
  | _ => simp [stands] at h
theorem standsT {v : V} {ds : List D} (p : Rp G K H μ v (.tup ds)) : ∃ a vs, v = .ref a ∧ (∀ H' μ', Mono H μ H' μ' → SqT K H' a vs) ∧ RpA G K H μ vs ds := by
  cases p with
  | tup h1 h2 h3 => exact ⟨_, _, rfl, fun H' μ' g => SqT.of (g.keep _ _ h1 h2), h3⟩
  | tupK h1 h2 h3 h4 h5 h6 => exact ⟨_, _, rfl, fun H' μ' g => .inr ⟨_, _, _, h1, h2, h3, h4, h5⟩, h6⟩
theorem Mono.refl : Mono H μ H μ := ⟨fun _ _ h _ => h, fun _ _ _ h => h, fun _ _ h => h⟩
theorem RI.list {a : Addr} {vs : List V} {ds : List D} (h : ∀ H' μ', Mono H μ H' μ' → SqL K H' a vs) (p : RpA G K H μ vs ds) : RI G K H μ (Itl K a) ds := by
  intro H' μ' g s r i
  refine ⟨fun d e => ?_, fun hi => ⟨vs, h H' μ' g, by rw [p.length]; exact hi⟩⟩
  obtain ⟨v, h1, h2⟩ := p.get e
  refine ⟨⟨vs, v, h H' μ' g, h1⟩, fun x H'' hy => ?_⟩
  obtain ⟨rfl, hy⟩ := hy
  have := hy vs (h _ μ' g)
  rw [h1] at this
  cases this
  exact ⟨Grow.refl, r, h2.mon g⟩
theorem RI.tuple {a : Addr} {vs : List V} {ds : List D} (h : ∀ H' μ', Mono H μ H' μ' → SqT K H' a vs) (p : RpA G K H μ vs ds) : RI G K H μ (Itt K a) ds := by
  intro H' μ' g s r i
  refine ⟨fun d e => ?_, fun hi => ⟨vs, h H' μ' g, by rw [p.length]; exact hi⟩⟩
  obtain ⟨v, h1, h2⟩ := p.get e
  refine ⟨⟨vs, v, h H' μ' g, h1⟩, fun x H'' hy => ?_⟩
  obtain ⟨rfl, hy⟩ := hy
  have := hy vs (h _ μ' g)
  rw [h1] at this
  cases this
  exact ⟨Grow.refl, r, h2.mon g⟩
def rangeD (lo : Int) (n : Nat) : List D := (List.range n).map fun (i : Nat) => .int (lo + (i : Int))
theorem RI.range {lo : Int} {n : Nat} : RI G K H μ (Itr lo n) (rangeD lo n) := by
  intro H' μ' g s r i
  refine ⟨fun d e => ?_, fun hi => by show n ≤ i; simpa [rangeD] using hi⟩
  have hi : i < n := by
    have := (List.getElem?_eq_some_iff.mp e).1
    simpa [rangeD] using this
  have hd : d = .int (lo + (i : Int)) := by
    unfold rangeD at e
    rw [List.getElem?_map, List.getElem?_range hi] at e
    exact (Option.some.inj e).symm
  subst hd
  refine ⟨hi, fun x H'' hy => ?_⟩
  obtain ⟨rfl, rfl⟩ := hy
  exact ⟨Grow.refl, r, .int _⟩
theorem ji_any {tg e : Expr} {t : TE} {m : ME} (h : JE X G W e t m) (hK : X.K = G.K := by rfl) : JI X G W tg e (fun σ H R => iList G.K t σ H R ∨ iTup G.K t σ H R) (mIter m) := by
  refine ⟨fun tk => hK ▸ PI.or (pi_list (h.pe tk)) (pi_tup (h.pe tk)), fun σ H μ l s hl hs => ?_⟩
  have z := h.sim σ H μ l s hl hs
  unfold mIter
  cases e1 : m l s with
  | stuck => trivial
  | ex x s1 =>
    rw [e1] at z
    exact fun Q q => .inl (z _ fun C d H' μ' g => q C d H' μ' g)
  | ok d s1 =>
    rw [e1] at z
    show okP G G.K _ _ H μ _ (match stands d with
      | some xs => .ok xs s1
      | none => .stuck)
    cases e2 : stands d with
    | none => trivial
    | some xs =>
      intro Q q
      by_cases hk : (∃ ys, d = .tup ys)
      · obtain ⟨ys, rfl⟩ := hk
        simp only [stands, Option.some.injEq] at e2
        subst e2
        refine .inr (z _ fun v H' μ' g r p => ?_)
        obtain ⟨a, vs, rfl, h1, p1⟩ := standsT p
        exact ⟨a, rfl, ⟨vs, h1 H' μ' Mono.refl⟩, q _ H' μ' g r (RI.tuple h1 p1)⟩
      · refine .inl (z _ fun v H' μ' g r p => ?_)
        obtain ⟨a, vs, rfl, h1, p1⟩ := standsL p (fun ys e => hk ⟨ys, e⟩) e2
        exact ⟨a, rfl, ⟨vs, h1 H' μ' Mono.refl⟩, q _ H' μ' g r (RI.list h1 p1)⟩
/-- small enough for a range; not to be reckoned out -/
noncomputable def intB (i : Int) : Bool := @decide (-(2 ^ 62) ≤ i ∧ i < 2 ^ 62) (Classical.propDecidable _)
noncomputable def mRng1 (m : MA) : MI := fun l s => (m l s).bind fun ds s1 => match ds with
  | [.int j] => if intB j = true then .ok (rangeD 0 j.toNat) s1 else .stuck
  | _ => .stuck
noncomputable def mRng2 (m : MA) : MI := fun l s => (m l s).bind fun ds s1 => match ds with
  | [.int i, .int j] => if intB i = true ∧ intB j = true then .ok (rangeD i (j - i).toNat) s1 else .stuck
  | _ => .stuck
theorem intB_of {i : Int} (h : intB i = true) : -(2 ^ 62) ≤ i ∧ i < 2 ^ 62 := by
  unfold intB at h
  simpa using h
theorem ji_rng1 {tg a : Expr} {t : TA} {m : MA} {p pos : Pos} (hm : X.mg "range" = none) (h : JA X G W [a] t m) (hg : Gl X "range" := by rfl) (hs : starEach [a] X.env = [(false, eval a X.env)] := by rfl) : JI X G W tg (.Call (.Name "range" p) [a] [] pos) (iRng1 t) (mRng1 m) := by
  refine ⟨fun tk => pi_range1 hg hm (h.pe tk) hs, fun σ H μ l s hl hs => (h.sim σ H μ l s hl hs).bind fun xs H1 μ1 ds s1 g1 r1 p1 => ?_⟩
  split
  · split
    · rename_i j hj
      obtain ⟨v, rfl, p0⟩ := p1.one
      cases p0
      have := intB_of hj
      exact fun Q q => ⟨_, rfl, this.1, this.2, q _ H1 μ1 Grow.refl r1 RI.range⟩
    · trivial
  · trivial
theorem ji_rng2 {tg a b : Expr} {t : TA} {m : MA} {p pos : Pos} (hm : X.mg "range" = none) (h : JA X G W [a, b] t m) (hg : Gl X "range" := by rfl) (hs : starEach [a, b] X.env = [(false, eval a X.env), (false, eval b X.env)] := by rfl) (hs2 : starEach [b] X.env = [(false, eval b X.env)] := by rfl) : JI X G W tg (.Call (.Name "range" p) [a, b] [] pos) (iRng2 t) (mRng2 m) := by
  refine ⟨fun tk => pi_range2 hg hm (h.pe tk) hs hs2, fun σ H μ l s hl hs => (h.sim σ H μ l s hl hs).bind fun xs H1 μ1 ds s1 g1 r1 p1 => ?_⟩
  split
  · split
    · rename_i j hj
      obtain ⟨v, u, rfl, p0, p2⟩ := p1.two
      cases p0
      cases p2
      have h1 := intB_of hj.1
      have h2 := intB_of hj.2
      exact fun Q q => ⟨_, _, rfl, ⟨h1.1, h1.2, h2.1, h2.2⟩, q _ H1 μ1 Grow.refl r1 RI.range⟩
    · trivial
  · trivial
/-- pairs -/
def zipD : List D → List D → List D
  | x :: xs, y :: ys => .tup [x, y] :: zipD xs ys
  | _, _ => []
theorem zipD_get : ∀ {xs ys : List D} {i : Nat} {d : D}, (zipD xs ys)[i]? = some d → ∃ x y, xs[i]? = some x ∧ ys[i]? = some y ∧ d = .tup [x, y]
  | [], _, i, d, h => by simp [zipD] at h
  | _ :: _, [], i, d, h => by simp [zipD] at h
  | x :: xs, y :: ys, 0, d, h => by
    simp [zipD] at h
    exact ⟨x, y, by simp, by simp, h.symm⟩
  | x :: xs, y :: ys, i + 1, d, h => by
    simp only [zipD, List.getElem?_cons_succ] at h ⊢
    exact zipD_get h
theorem zipD_len : ∀ {xs ys : List D} {i : Nat}, (zipD xs ys).length ≤ i → xs.length ≤ i ∨ ys.length ≤ i
  | [], _, i, _ => .inl (Nat.zero_le _)
  | _ :: _, [], i, _ => .inr (Nat.zero_le _)
  | x :: xs, y :: ys, 0, h => by simp [zipD] at h
  | x :: xs, y :: ys, i + 1, h => by
    simp only [zipD, List.length_cons, Nat.add_le_add_iff_right] at h ⊢
    exact zipD_len h
theorem RI.zipL {a b : Addr} {vs us : List V} {ds es : List D} (h : ∀ H' μ', Mono H μ H' μ' → SqL K H' a vs) (p : RpA G K H μ vs ds) (h' : ∀ H' μ', Mono H μ H' μ' → SqL K H' b us) (p' : RpA G K H μ us es) : RI G K H μ (Itz K a b) (zipD ds es) := by
  intro H' μ' g s r i
  refine ⟨fun d e => ?_, fun hi => ⟨vs, us, h H' μ' g, h' H' μ' g, by rw [p.length, p'.length]; exact zipD_len hi⟩⟩
  obtain ⟨x, y, e1, e2, rfl⟩ := zipD_get e
  obtain ⟨v, h1, h2⟩ := p.get e1
  obtain ⟨u, h3, h4⟩ := p'.get e2
  refine ⟨⟨vs, us, v, u, h H' μ' g, h' H' μ' g, h1, h3⟩, fun z H'' hy => ?_⟩
  obtain ⟨T, a1, b1, rfl, hT, rfl, k1, k2⟩ := hy
  have q1 := k1 vs (h _ μ' g)
  have q2 := k2 us (h' _ μ' g)
  rw [h1] at q1
  rw [h3] at q2
  cases q1
  cases q2
  exact fresh_step r hT (.cons (h2.mon g) (.cons (h4.mon g) .nil))
theorem RI.zipT {a b : Addr} {vs us : List V} {ds es : List D} (h : ∀ H' μ', Mono H μ H' μ' → SqT K H' a vs) (p : RpA G K H μ vs ds) (h' : ∀ H' μ', Mono H μ H' μ' → SqT K H' b us) (p' : RpA G K H μ us es) : RI G K H μ (RZ.ItzT K a b) (zipD ds es) := by
  intro H' μ' g s r i
  refine ⟨fun d e => ?_, fun hi => ⟨vs, us, h H' μ' g, h' H' μ' g, by rw [p.length, p'.length]; exact zipD_len hi⟩⟩
  obtain ⟨x, y, e1, e2, rfl⟩ := zipD_get e
  obtain ⟨v, h1, h2⟩ := p.get e1
  obtain ⟨u, h3, h4⟩ := p'.get e2
  refine ⟨⟨vs, us, v, u, h H' μ' g, h' H' μ' g, h1, h3⟩, fun z H'' hy => ?_⟩
  obtain ⟨T, a1, b1, rfl, hT, rfl, k1, k2⟩ := hy
  have q1 := k1 vs (h _ μ' g)
  have q2 := k2 us (h' _ μ' g)
  rw [h1] at q1
  rw [h3] at q2
  cases q1
  cases q2
  exact fresh_step r hT (.cons (h2.mon g) (.cons (h4.mon g) .nil))
def mZip (m : MA) : MI := fun l s => (m l s).bind fun ds s1 => match ds with
  | [.tup xs, .tup ys] => .ok (zipD xs ys) s1
  | [.lst xs, .lst ys] => .ok (zipD xs ys) s1
  | _ => .stuck
theorem ji_zip {elts : List Expr} {kk : Nat} {tpos : Pos} {a b : Expr} {t : TA} {m : MA} {p pos : Pos} (hm : X.mg "zip" = none) (h : JA X G W [a, b] t m) (hg : Gl X "zip" := by rfl)
    (hs : starEach [a, b] X.env = (false, eval a X.env) :: starEach [b] X.env := by rfl) (hpl : (backTo pos (starEach [b] X.env)).any (·.1) = false := by rfl) (hK : X.K = G.K := by rfl) : JI X G W (.Tuple elts kk tpos) (.Call (.Name "zip" p) [a, b] [] pos) (RZ.iZipA G.K t) (mZip m) := by
  refine ⟨fun tk => hK ▸ RZ.pi_zipA hg hm (h.pe tk) hs hpl, fun σ H μ l s hl hs => (h.sim σ H μ l s hl hs).bind fun xs H1 μ1 ds s1 g1 r1 p1 => ?_⟩
  split
  · obtain ⟨v, u, rfl, p0, p2⟩ := p1.two
    obtain ⟨a, vs, rfl, h1, q1⟩ := standsT p0
    obtain ⟨b, us, rfl, h2, q2⟩ := standsT p2
    exact fun Q q => ⟨a, b, vs, us, rfl, .inr ⟨h1 _ _ Mono.refl, h2 _ _ Mono.refl, q _ H1 μ1 Grow.refl r1 (RI.zipT h1 q1 h2 q2)⟩⟩
  · obtain ⟨v, u, rfl, p0, p2⟩ := p1.two
    obtain ⟨a, vs, rfl, h1, q1⟩ := standsL p0 (fun _ e => by cases e) rfl
    obtain ⟨b, us, rfl, h2, q2⟩ := standsL p2 (fun _ e => by cases e) rfl
    exact fun Q q => ⟨a, b, vs, us, rfl, .inl ⟨h1 _ _ Mono.refl, h2 _ _ Mono.refl, q _ H1 μ1 Grow.refl r1 (RI.zipL h1 q1 h2 q2)⟩⟩
  · trivial
def enumD (i : Nat) : List D → List D
  | [] => []
  | x :: xs => .tup [.int (i : Int), x] :: enumD (i + 1) xs
theorem enumD_get : ∀ {xs : List D} {n i : Nat} {d : D}, (enumD n xs)[i]? = some d → ∃ x, xs[i]? = some x ∧ d = .tup [.int ((n + i : Nat) : Int), x]
  | [], n, i, d, h => by simp [enumD] at h
  | x :: xs, n, 0, d, h => by
    simp [enumD] at h
    exact ⟨x, by simp, h.symm⟩
  | x :: xs, n, i + 1, d, h => by
    simp only [enumD, List.getElem?_cons_succ] at h ⊢
    obtain ⟨y, h1, h2⟩ := enumD_get h
    exact ⟨y, h1, by rw [h2, show n + 1 + i = n + (i + 1) by omega]⟩
theorem enumD_len : ∀ {xs : List D} {n : Nat}, (enumD n xs).length = xs.length
  | [], _ => rfl
  | x :: xs, n => by rw [enumD, List.length_cons, List.length_cons, enumD_len]
theorem RI.enum {a : Addr} {vs : List V} {ds : List D} (h : ∀ H' μ', Mono H μ H' μ' → SqL K H' a vs) (p : RpA G K H μ vs ds) : RI G K H μ (Ite K a) (enumD 0 ds) := by
  intro H' μ' g s r i
  refine ⟨fun d e => ?_, fun hi => ⟨vs, h H' μ' g, by rw [p.length]; rw [enumD_len] at hi; exact hi⟩⟩
  obtain ⟨x, e1, rfl⟩ := enumD_get e
  obtain ⟨v, h1, h2⟩ := p.get e1
  refine ⟨⟨vs, v, h H' μ' g, h1⟩, fun z H'' hy => ?_⟩
  obtain ⟨T, a1, rfl, hT, rfl, k1⟩ := hy
  have q1 := k1 vs (h _ μ' g)
  rw [h1] at q1
  cases q1
  rw [Nat.zero_add]
  exact fresh_step r hT (.cons (.int _) (.cons (h2.mon g) .nil))
def mEnum (m : MA) : MI := fun l s => (m l s).bind fun ds s1 => match ds with
  | [.lst xs] => .ok (enumD 0 xs) s1
  | _ => .stuck
theorem ji_enum {elts : List Expr} {kk : Nat} {tpos : Pos} {a : Expr} {t : TA} {m : MA} {p pos : Pos} (hm : X.mg "enumerate" = none) (h : JA X G W [a] t m) (hg : Gl X "enumerate" := by rfl)
    (hs : starEach [a] X.env = [(false, eval a X.env)] := by rfl) (hK : X.K = G.K := by rfl) : JI X G W (.Tuple elts kk tpos) (.Call (.Name "enumerate" p) [a] [] pos) (iEnum G.K t) (mEnum m) := by
  refine ⟨fun tk => hK ▸ pi_enum hg hm (h.pe tk) hs, fun σ H μ l s hl hs => (h.sim σ H μ l s hl hs).bind fun xs H1 μ1 ds s1 g1 r1 p1 => ?_⟩
  split
  · obtain ⟨v, rfl, p0⟩ := p1.one
    obtain ⟨a, vs, rfl, h1, q1⟩ := standsL p0 (fun _ e => by cases e) rfl
    exact fun Q q => ⟨a, vs, rfl, h1 _ _ Mono.refl, q _ H1 μ1 Grow.refl r1 (RI.enum h1 q1)⟩
  · trivial
end
end DL


namespace DL
open PySem PySem.Spec PyProof.Rows L2

/-! ### targets -/
abbrev MG := D → Loc → Sto → R Loc
abbrev MGs := List D → Loc → Sto → R Loc
structure JG (X : Cx) (G : Gm) (W : WX) (tg : Expr) (t : TG) (m : MG) : Prop where
  pe : Takes X W → PG X tg t
  sim : ∀ (σ : L2.St) (H : Hp) (μ : Mu) (l : Loc) (s : Sto) (v : V) (d : D), RL G G.K H μ σ l → RS G G.K H μ s → Rp G G.K H μ v d →
    okP G G.K (fun Q : L2.St → Hp → Prop => t v σ H Q) (fun c d H' => W c d σ H') H μ (RL G G.K) (m d l s)
structure JGs (X : Cx) (G : Gm) (W : WX) (tg : List Expr) (t : TGs) (m : MGs) : Prop where
  pe : Takes X W → PGs X tg t
  sim : ∀ (σ : L2.St) (H : Hp) (μ : Mu) (l : Loc) (s : Sto) (vs : List V) (ds : List D), RL G G.K H μ σ l → RS G G.K H μ s → RpA G G.K H μ vs ds →
    okP G G.K (fun Q : L2.St → Hp → Prop => t vs σ H Q) (fun c d H' => W c d σ H') H μ (RL G G.K) (m ds l s)
def mgName (i : Nat) : MG := fun d l s => .ok (l.set i (some d)) s
def mgNil : MGs := fun ds l s => match ds with
  | [] => .ok l s
  | _ => .stuck
section
variable {X : Cx} {G : Gm} {K : PySem.W.Frag} {H : Hp} {μ : Mu} {s : Sto} {W : WX} {k : Nat}
theorem RL.set {σ : L2.St} {l : Loc} {i : Nat} {v : V} {d : D} (r : RL G K H μ σ l) (p : Rp G K H μ v d) : RL G K H μ (σ.set i (some v)) (l.set i (some d)) := by
  refine ⟨by rw [List.length_set, List.length_set]; exact r.1, fun j e h => ?_⟩
  by_cases hij : i = j
  · subst hij
    have hlt : i < l.length := by
      have := (List.getElem?_eq_some_iff.mp h).1
      rwa [List.length_set] at this
    rw [List.getElem?_set_self hlt] at h
    cases h
    exact ⟨v, List.getElem?_set_self (by rw [r.1]; exact hlt), p⟩
  · rw [List.getElem?_set_ne hij] at h
    obtain ⟨u, h1, h2⟩ := r.2 j e h
    exact ⟨u, by rw [List.getElem?_set_ne hij]; exact h1, h2⟩
theorem jg_name {i : Nat} {x : Str} {pos : Pos} (hN : X.N.Nodup) (hi : X.N[i]? = some x := by rfl) (hx : L2.Loc X.env.scope x := by first | exact Or.inl rfl | exact Or.inr rfl) (hf : X.fn x = true ∨ X.env.scope.names.lookup x = some .local := by first | exact .inl rfl | exact .inr rfl | assumption) : JG X G W (.Name x pos) (gName i) (mgName i) :=
  ⟨fun tk => pg_name hN hi hx hf, fun σ H μ l s v d hl hs hp Q q => q _ H μ Grow.refl hs (hl.set hp)⟩
theorem jgs_nil : JGs X G W [] gNil mgNil := by
  refine ⟨fun tk => pgs_nil, fun σ H μ l s vs ds hl hs hp => ?_⟩
  cases hp with
  | nil => exact fun Q q => ⟨rfl, q σ H μ Grow.refl hs hl⟩
  | cons a b => trivial
theorem okP.ws {β α : Type} {t : (β → Hp → Prop) → Prop} {W W' : Value → Option Addr → Hp → Prop} {Rl : Hp → Mu → β → α → Prop} {r : R α} (h : okP G K t W H μ Rl r) (hw : ∀ c d H, W' c d H → W c d H) : okP G K t W' H μ Rl r := by
  cases r with
  | ok a s => exact h
  | ex c s => exact fun Q q => h Q fun C d H' μ' g r c f => hw _ _ _ (q C d H' μ' g r c f)
  | stuck => trivial
/-- what is stored raises nothing -/
def noEx {α : Type} (r : R α) : R α := match r with
  | .ok a s => .ok a s
  | _ => .stuck
def mgCons (m : MG) (ms : MGs) : MGs := fun ds l s => match ds with
  | d :: ds => (m d l s).bind fun l1 s1 => noEx (ms ds l1 s1)
  | [] => .stuck
theorem okP.noEx {β α : Type} {t : (β → Hp → Prop) → Prop} {W W' : Value → Option Addr → Hp → Prop} {Rl : Hp → Mu → β → α → Prop} {r : R α} (h : okP G K t W H μ Rl r) : okP G K t W' H μ Rl (noEx r) := by
  cases r with
  | ok a s => exact h
  | ex c s => trivial
  | stuck => trivial
theorem jgs_cons {e : Expr} {es : List Expr} {t : TG} {u : TGs} {m : MG} {ms : MGs} (h1 : JG X G W e t m) (h2 : JGs X G W es u ms) (hs : (assignEach (e :: es) X.env).map (·.2) = assign e X.env :: (assignEach es X.env).map (·.2) := by rfl) : JGs X G W (e :: es) (gCons t u) (mgCons m ms) := by
  refine ⟨fun tk => pgs_cons (h1.pe tk) (h2.pe tk) hs, fun σ H μ l s vs ds hl hs hp => ?_⟩
  cases hp with
  | nil => trivial
  | @cons v d vs ds a b =>
    have z : okP G G.K (fun Q : L2.St → Hp → Prop => t v σ H fun σ' H' => u vs σ' H' Q) (fun c d H' => W c d σ H') H μ (RL G G.K) ((m d l s).bind fun l1 s1 => noEx (ms ds l1 s1)) :=
      (h1.sim σ H μ l s v d hl hs a).bind fun σ1 H1 μ1 l1 s1 g1 r1 p1 => (h2.sim σ1 H1 μ1 l1 s1 vs ds p1 r1 (b.mono g1)).noEx
    show okP G G.K (fun Q : L2.St → Hp → Prop => gCons t u (v :: vs) σ H Q) _ H μ _ ((m d l s).bind fun l1 s1 => noEx (ms ds l1 s1))
    generalize ((m d l s).bind fun l1 s1 => noEx (ms ds l1 s1)) = r at z ⊢
    cases r with
    | ok l2 s2 => exact fun Q q => ⟨v, vs, rfl, z Q q⟩
    | ex c s2 => exact fun Q q => ⟨v, vs, rfl, z Q q⟩
    | stuck => trivial
def mgTup (n : Nat) (ms : MGs) : MG := fun d l s => match d with
  | .tup ds => if ds.length = n then ms ds l s else .stuck
  | _ => .stuck
theorem jg_tup {es : List Expr} {kk : Nat} {t : TGs} {n : Nat} {ms : MGs} {pos : Pos} (hc : X.calm = true) (h : JGs X G W es t ms) (hn : (assignEach es X.env).length = n := by rfl) (hst : (assignEach es X.env).findIdx? (·.1) = none := by rfl) (hK : X.K = G.K := by rfl) : JG X G W (.Tuple es kk pos) (gTup G.K n t) (mgTup n ms) := by
  refine ⟨fun tk => hK ▸ pg_tup hc (h.pe tk) hn hst, fun σ H μ l s v d hl hs hp => ?_⟩
  unfold mgTup
  split
  · rename_i ds
    split
    · rename_i hz
      obtain ⟨a, vs, rfl, h1, p1⟩ := SqT_of hp
      have z := h.sim σ H μ l s vs ds hl hs p1
      cases e : ms ds l s with
      | ok l2 s2 => rw [e] at z; exact fun Q q => ⟨a, vs, rfl, h1, by rw [p1.length]; exact hz, z Q q⟩
      | ex c s2 => rw [e] at z; exact fun Q q => ⟨a, vs, rfl, h1, by rw [p1.length]; exact hz, z Q q⟩
      | stuck => trivial
    · trivial
  · trivial
/-- a, b = a list -/
def mgLst (n : Nat) (ms : MGs) : MG := fun d l s => match rdL s d with
  | some ds => if ds.length = n then ms ds l s else .stuck
  | none => .stuck
theorem jg_lst {es : List Expr} {kk : Nat} {t : TGs} {n : Nat} {ms : MGs} {pos : Pos} (hc : X.calm = true) (h : JGs X G W es t ms) (hn : (assignEach es X.env).length = n := by rfl) (hst : (assignEach es X.env).findIdx? (·.1) = none := by rfl) (hK : X.K = G.K := by rfl) : JG X G W (.Tuple es kk pos) (gLst G.K n t) (mgLst n ms) := by
  refine ⟨fun tk => hK ▸ pg_lst hc (h.pe tk) hn hst, fun σ H μ l s v d hl hs hp => ?_⟩
  unfold mgLst
  cases e1 : rdL s d with
  | none => trivial
  | some ds =>
    dsimp only
    split
    · rename_i hz
      obtain ⟨a, vs, rfl, h1, p1⟩ := rdL_ok hs hp e1
      have z := h.sim σ H μ l s vs ds hl hs p1
      cases e : ms ds l s with
      | ok l2 s2 => rw [e] at z; exact fun Q q => ⟨a, vs, rfl, SqL.of h1, by rw [p1.length]; exact hz, z Q q⟩
      | ex c s2 => rw [e] at z; exact fun Q q => ⟨a, vs, rfl, SqL.of h1, by rw [p1.length]; exact hz, z Q q⟩
      | stuck => trivial
    · trivial
/-- o[i] = v -/
def setD (o i v : D) (s : Sto) : R Unit := match o, i with
  | .ref n, .int k => match s[n]? with
    | some (.lst xs) => match ixN xs.length k with
      | some j => .ok () (s.set n (.lst (xs.set j v)))
      | none => .stuck
    | _ => .stuck
  | _, _ => .stuck
def SimSet (G : Gm) (K : PySem.W.Frag) (r : TSet) (f : D → D → D → Sto → R Unit) : Prop :=
  ∀ (H : Hp) (μ : Mu) (s : Sto) (x y z : V) (o i v : D) (W : Value → Option Addr → Hp → Prop), RS G K H μ s → Rp G K H μ x o → Rp G K H μ y i → Rp G K H μ z v → okP G K (fun Q : Unit → Hp → Prop => r x y z H (Q ())) W H μ (fun _ _ _ _ => True) (f o i v s)
theorem s_set : SimSet G K rSetL setD := by
  intro H μ s x y z o i v W r p q t
  cases o <;> first | trivial | skip
  rename_i n
  cases i <;> first | trivial | skip
  rename_i k
  cases p
  rename_i a ha
  cases q
  unfold setD
  dsimp only
  cases e : s[n]? with
  | none => trivial
  | some u =>
    cases u with
    | lst xs =>
      dsimp only
      cases e2 : ixN xs.length k with
      | none => trivial
      | some j =>
        obtain ⟨vs, q1, q2⟩ := r.at_ n a _ ha e
        have hm : a ∈ μ.tr := List.mem_iff_getElem?.mpr ⟨n, ha⟩
        have g : Grow H μ (upd H a (.lst (vs.set j z))) μ := r.gwrite hm
        exact fun Q q => ⟨a, vs, k, j, rfl, rfl, q1, by rw [q2.length]; exact e2, q () _ μ g (r.write ha ⟨_, upd_same, (q2.set j t).mono g⟩) trivial⟩
    | dK _ => trivial
    | dT _ => trivial
def mgSub (f : D → D → D → Sto → R Unit) (mo mi : ME) : MG := fun v l s => (mo l s).bind fun o s1 => (mi l s1).bind fun i s2 => (f o i v s2).bind fun _ s3 => .ok l s3
theorem jg_sub {o i : Expr} {to ti : TE} {mo mi : ME} {f : D → D → D → Sto → R Unit} {r : TSet} {pos : Pos} (hset : PSet X r) (hsim : SimSet G G.K r f) (ho : JE X G W o to mo) (hi : JE X G W i ti mi)
    (ha : ∀ v, assign (.Subscript o i pos) X.env v = (do
      let ov ← holding [v] (eval o X.env)
      let iv ← holding [v, ov] (eval i X.env)
      standAt pos
      holding [v, ov, iv] (setItem ov iv v)
      release [v, ov, iv] []) := by intro _; rfl) : JG X G W (.Subscript o i pos) (gSub to ti r) (mgSub f mo mi) := by
  refine ⟨fun tk => pg_sub (ho.pe tk) (hi.pe tk) hset ha, fun σ H μ l s v d hl hs hp => ?_⟩
  refine (ho.sim σ H μ l s hl hs).bind (u := fun x H1 Q => ti σ H1 fun i H2 => r x i v H2 fun H3 => Q σ H3) fun x H1 μ1 od s1 g1 r1 p1 => ?_
  refine (hi.sim σ H1 μ1 l s1 (hl.mono g1) r1).bind (u := fun i H2 Q => r x i v H2 fun H3 => Q σ H3) fun y H2 μ2 id s2 g2 r2 p2 => ?_
  refine (hsim H2 μ2 s2 x y v od id d _ r2 (p1.mono g2) p2 ((hp.mono g1).mono g2)).bind (t := fun Q : Unit → Hp → Prop => r x y v H2 (Q ())) (u := fun _ H3 Q => Q σ H3) fun _ H3 μ3 _ s3 g3 r3 _ => ?_
  exact fun Q q => q σ H3 μ3 Grow.refl r3 (((hl.mono g1).mono g2).mono g3)

/-! ### methods of built-in types -/
def isTy (T : String) (s : Sto) : D → Bool
  | .str _ => T == "str"
  | .int _ => T == "int"
  | .lst _ => T == "list"
  | .scr _ => T == "list"
  | .ref n => match s[n]? with
    | some (.lst _) => T == "list"
    | some (.dK _) => T == "dict"
    | some (.dT _) => T == "dict"
    | none => false
  | _ => false
theorem isTy_ok {T : String} {v : V} {d : D} (r : RS G K H μ s) (p : Rp G K H μ v d) (h : isTy T s d = true) : tyV K T v H := by
  cases d with
  | str x => cases p; exact eq_of_beq h
  | int x => cases p; exact eq_of_beq h
  | lst x => cases p; exact .inl ⟨eq_of_beq h, _, SqL.of (by assumption)⟩
  | scr x =>
    cases p with
    | scr h1 h2 => exact .inl ⟨eq_of_beq h, _, .inl (.inr ⟨_, h1⟩)⟩
    | scrK h1 h2 h3 h4 h5 h6 => exact .inl ⟨eq_of_beq h, _, .inr ⟨_, _, _, h1, h2, h3, h4, h5, h6⟩⟩
  | ref n =>
    cases p
    rename_i a ha
    unfold isTy at h
    cases e : s[n]? with
    | none => simp only [e] at h; cases h
    | some o =>
      cases o with
      | lst xs =>
        simp only [e] at h
        obtain ⟨vs, q1, q2⟩ := r.at_ n a _ ha e
        exact .inl ⟨eq_of_beq h, _, SqL.of q1⟩
      | dK xs =>
        simp only [e] at h
        obtain ⟨vs, q1, q2⟩ := r.at_ n a _ ha e
        exact .inr (.inr (.inl ⟨eq_of_beq h, .inl ⟨_, q1⟩⟩))
      | dT xs =>
        simp only [e] at h
        obtain ⟨vs, q1, q2⟩ := r.at_ n a _ ha e
        exact .inr (.inr (.inl ⟨eq_of_beq h, .inr ⟨_, q1⟩⟩))
  | _ => cases h
def SimM (G : Gm) (K : PySem.W.Frag) (r : V → List V → Hp → VK → Prop) (f : D → List D → Sto → R D) : Prop :=
  ∀ (H : Hp) (μ : Mu) (s : Sto) (x : V) (vs : List V) (d : D) (ds : List D) (W : Value → Option Addr → Hp → Prop), RS G K H μ s → Rp G K H μ x d → RpA G K H μ vs ds → okP G K (r x vs H) W H μ (Rp G K) (f d ds s)
def mMeth (T : String) (f : D → List D → Sto → R D) (mo : ME) (ma : MA) : ME := fun l s => (mo l s).bind fun d s1 => if isTy T s1 d = true then (ma l s1).bind fun ds s2 => f d ds s2 else .stuck
section
variable {o e : Expr} {es : List Expr} {to : TE} {t : TA} {mo : ME} {ma : MA} {name : Str} {apos cpos : Pos} {T id : String} {r : V → List V → Hp → VK → Prop} {f : D → List D → Sto → R D}
theorem okP_and {P : Prop} {u : VK → Prop} {W : Value → Option Addr → Hp → Prop} {ret : R D} (hp : P) (z : okP G K u W H μ (Rp G K) ret) : okP G K (fun Q => P ∧ u Q) W H μ (Rp G K) ret := by
  cases ret with
  | ok a s => exact fun Q q => ⟨hp, z Q q⟩
  | ex a s => exact fun Q q => ⟨hp, z Q q⟩
  | stuck => trivial
theorem je_meth (pa : PlainAttrs T) (slot : Slot T name id) (hty : typeOf (.builtin id) = pure (.type "method_descriptor")) (hm : MtR X id r) (hs : SimM G G.K r f) (ho : JE X G W o to mo) (ha : JA X G W (e :: es) t ma)
    (hbase : attributeBase o name X.env (eval o X.env) = eval o X.env := by rfl)
    (hfew : ((backTo cpos (starEach (e :: es) X.env)).all (fun x => !x.1) && (backToKw cpos (keywordEach [] X.env)).all (fun x => x.1.isSome)
      && decide ((e :: es).length + ([] : List Keyword).length + (if ([] : List Keyword).isEmpty then 0 else 1) < 30)) = true := by rfl)
    (hline : (apos.endLine == cpos.line) = true := by rfl) (hst : starEach (e :: es) X.env = (false, eval e X.env) :: starEach es X.env := by rfl) (hplain : (backTo cpos (starEach es X.env)).any (·.1) = false := by rfl) (hK : X.K = G.K := by rfl) :
    JE X G W (.Call (.Attribute o name apos) (e :: es) [] cpos) (tBM G.K T r to t) (mMeth T f mo ma) := by
  refine ⟨fun tk => hK ▸ pe_bm pa slot hty hm (ho.pe tk) (ha.pe tk) hbase hfew hline hst hplain, fun σ H μ l s hl hs0 => (ho.sim σ H μ l s hl hs0).bind fun x H1 μ1 d s1 g1 r1 p1 => ?_⟩
  split
  · rename_i ht
    refine okP_and (isTy_ok r1 p1 ht) ?_
    exact (ha.sim σ H1 μ1 l s1 (hl.mono g1) r1).bind fun vs H2 μ2 ds s2 g2 r2 p2 => hs H2 μ2 s2 x vs d ds _ r2 (p1.mono g2) p2
  · trivial
theorem je_meth0 (pa : PlainAttrs T) (slot : Slot T name id) (hty : typeOf (.builtin id) = pure (.type "method_descriptor")) (hm : MtR X id r) (hs : SimM G G.K r f) (ho : JE X G W o to mo)
    (hbase : attributeBase o name X.env (eval o X.env) = eval o X.env := by rfl) (hline : (apos.endLine == cpos.line) = true := by rfl) (hK : X.K = G.K := by rfl) :
    JE X G W (.Call (.Attribute o name apos) [] [] cpos) (tBM0 G.K T r to) (mMeth T f mo mNil) := by
  refine ⟨fun tk => hK ▸ pe_bm0 pa slot hty hm (ho.pe tk) hbase hline, fun σ H μ l s hl hs0 => (ho.sim σ H μ l s hl hs0).bind fun x H1 μ1 d s1 g1 r1 p1 => ?_⟩
  split
  · rename_i ht
    refine okP_and (isTy_ok r1 p1 ht) ?_
    exact hs H1 μ1 s1 x [] d [] _ r1 p1 .nil
  · trivial
end
def appendM (o : D) (ds : List D) (s : Sto) : R D := match o, ds with
  | .ref n, [d] => match s[n]? with
    | some (.lst xs) => if xs.length < 100000 then .ok .non (s.set n (.lst (xs ++ [d]))) else .stuck
    | _ => .stuck
  | _, _ => .stuck
theorem sm_append : SimM G K rAppend appendM := by
  intro H μ s x vs d ds W r p q
  unfold appendM
  split
  · rename_i n e
    cases p
    rename_i a ha
    obtain ⟨v, rfl, q0⟩ := q.one
    cases e1 : s[n]? with
    | none => trivial
    | some u =>
      cases u with
      | lst xs =>
        dsimp only
        split
        · rename_i hz
          obtain ⟨vs, q1, q2⟩ := r.at_ n a _ ha e1
          have hm : a ∈ μ.tr := List.mem_iff_getElem?.mpr ⟨n, ha⟩
          have g : Grow H μ (upd H a (.lst (vs ++ [v]))) μ := r.gwrite hm
          exact fun Q k => ⟨a, vs, v, rfl, rfl, q1, lt_line (by rw [q2.length]; exact hz), k _ _ μ g (r.write ha ⟨_, upd_same, (q2.append (.cons q0 .nil)).mono g⟩) .non⟩
        · trivial
      | dK _ => trivial
      | dT _ => trivial
  · trivial
end

/-! ### comprehensions -/
def wipeD (l : Loc) : List Nat → Loc
  | [] => l
  | v :: vs => (wipeD l vs).set v none
def lcL (tg : MG) (tt : MT) (me : ME) : List D → MA
  | [], _, s => .ok [] s
  | d :: ds, l, s => (tg d l s).bind fun l1 s1 => (tt l1 s1).bind fun b s2 => match b with
    | true => (me l1 s2).bind fun y s3 => (lcL tg tt me ds l s3).bind fun ys s4 => .ok (y :: ys) s4
    | false => lcL tg tt me ds l s2
def mLc (own : List Nat) (mi : MI) (tg : MG) (tt : MT) (me : ME) : ME := fun l s => (mi l s).bind fun ds s1 => (noEx (lcL tg tt me ds (wipeD l own) s1)).bind fun ys s2 => if ys.length ≤ 100000 then .ok (.lst ys) s2 else .stuck
/-- the new list tracked -/
def mLcN (own : List Nat) (mi : MI) (tg : MG) (tt : MT) (me : ME) : ME := fun l s => (mi l s).bind fun ds s1 => (noEx (lcL tg tt me ds (wipeD l own) s1)).bind fun ys s2 => if ys.length ≤ 100000 then .ok (.ref s2.length) (s2 ++ [.lst ys]) else .stuck
/-- the tests of a comprehension -/
structure JTs (X : Cx) (G : Gm) (W : WX) (ifs : List Expr) (t : TT) (m : MT) : Prop where
  pe : Takes X W → PTs X ifs t
  sim : ∀ (σ : L2.St) (H : Hp) (μ : Mu) (l : Loc) (s : Sto), RL G G.K H μ σ l → RS G G.K H μ s → okP G G.K (t σ H) (fun c d H' => W c d σ H') H μ BEq2 (m l s)
def mYes : MT := fun _ s => .ok true s
abbrev W0 : WX := fun _ _ _ _ => False
section
variable {X : Cx} {G : Gm} {K : PySem.W.Frag} {H : Hp} {μ : Mu} {s : Sto} {W : WX} {k : Nat}
theorem jts_nil : JTs X G W [] tYes mYes := ⟨fun tk => pts_nil, fun σ H μ l s hl hs Q q => q true H μ Grow.refl hs rfl⟩
theorem jts_one {c : Expr} {t : TT} {m : MT} (h : JT X G W c t m) : JTs X G W [c] t m := ⟨fun tk => pts_one (h.pe tk), h.sim⟩
theorem RL.wipe {σ : L2.St} {l : Loc} (r : RL G K H μ σ l) : ∀ vs : List Nat, RL G K H μ (wipe σ vs) (wipeD l vs)
  | [] => r
  | v :: vs => by
    have ih := RL.wipe r vs
    unfold wipeD L2.wipe
    refine ⟨by rw [List.length_set, List.length_set]; exact ih.1, fun j e h => ?_⟩
    by_cases hij : v = j
    · subst hij
      have hlt : v < (wipeD l vs).length := by
        have := (List.getElem?_eq_some_iff.mp h).1
        rwa [List.length_set] at this
      rw [List.getElem?_set_self hlt] at h
      cases h
    · rw [List.getElem?_set_ne hij] at h
      obtain ⟨u, h1, h2⟩ := ih.2 j e h
      exact ⟨u, by rw [List.getElem?_set_ne hij]; exact h1, h2⟩
/-- the target stores the own names alone -/
def Keeps (g : TG) (vs : List Nat) : Prop := ∀ (v : V) (σ : L2.St) (H : Hp) (Q : L2.St → Hp → Prop), g v σ H Q → g v σ H fun σ2 H2 => wipe σ2 vs = wipe σ vs ∧ Q σ2 H2
theorem wipe_set {σ : L2.St} {i : Nat} {x : Option V} : ∀ {vs : List Nat}, i ∈ vs → wipe (σ.set i x) vs = wipe σ vs
  | [], h => by simp at h
  | v :: vs, h => by
    unfold L2.wipe
    by_cases hm : i ∈ vs
    · rw [wipe_set hm]
    · have e : v = i := by
        rcases List.mem_cons.mp h with h | h
        · exact h.symm
        · exact absurd h hm
      subst e
      have key : ∀ (ws : List Nat), v ∉ ws → wipe (σ.set v x) ws = (wipe σ ws).set v x := by
        intro ws
        induction ws with
        | nil => intro _; rfl
        | cons w ws ih =>
          intro hn
          unfold L2.wipe
          rw [ih (fun z => hn (List.mem_cons_of_mem _ z))]
          exact List.set_comm _ _ (fun z => hn (by rw [z]; exact List.mem_cons_self))
      rw [key vs hm, List.set_set]
theorem keeps_name {i : Nat} {vs : List Nat} (h : i ∈ vs) : Keeps (gName i) vs := fun v σ H Q q => ⟨wipe_set h, q⟩
theorem keeps_tup {n : Nat} {t : TGs} {vs : List Nat} (h : ∀ (us : List V) (σ : L2.St) (H : Hp) (Q : L2.St → Hp → Prop), t us σ H Q → t us σ H fun σ2 H2 => wipe σ2 vs = wipe σ vs ∧ Q σ2 H2) : Keeps (gTup K n t) vs :=
  fun v σ H Q ⟨a, xs, e, hq, hl, q⟩ => ⟨a, xs, e, hq, hl, h xs σ H Q q⟩
def KeepsS (t : TGs) (vs : List Nat) : Prop := ∀ (us : List V) (σ : L2.St) (H : Hp) (Q : L2.St → Hp → Prop), t us σ H Q → t us σ H fun σ2 H2 => wipe σ2 vs = wipe σ vs ∧ Q σ2 H2
theorem keeps_nil {vs : List Nat} : KeepsS gNil vs := fun us σ H Q ⟨e, q⟩ => ⟨e, rfl, q⟩
theorem keeps_cons {i : Nat} {u : TGs} {vs : List Nat} (h : i ∈ vs) (hu : KeepsS u vs) : KeepsS (gCons (gName i) u) vs := fun us σ H Q ⟨v, r, e, q⟩ => ⟨v, r, e, by
  have z := hu r (σ.set i (some v)) H Q q
  rw [wipe_set h] at z
  exact z⟩
theorem wipe_wipe {σ : L2.St} : ∀ vs : List Nat, wipe (wipe σ vs) vs = wipe σ vs := by
  have key : ∀ (ws vs : List Nat), (∀ i ∈ ws, i ∈ vs) → wipe (wipe σ ws) vs = wipe σ vs := by
    intro ws
    induction ws with
    | nil => intro vs _; rfl
    | cons w ws ih =>
      intro vs h
      show wipe ((wipe σ ws).set w none) vs = _
      rw [wipe_set (h w List.mem_cons_self)]
      exact ih vs fun i hi => h i (List.mem_cons_of_mem _ hi)
  exact fun vs => key vs vs fun _ h => h
theorem Keeps.two {g : TG} {vs : List Nat} (h : Keeps g vs) {v : V} {σ : L2.St} {H : Hp} {Q : L2.St → Hp → Prop} (q : g v (wipe σ vs) H Q) : g v (wipe σ vs) H fun σ2 H2 => wipe σ2 vs = wipe σ vs ∧ Q σ2 H2 := by
  have z := h v (wipe σ vs) H Q q
  rw [wipe_wipe] at z
  exact z
theorem Grow.none_back {H1 : Hp} {μ1 : Mu} {s1 : Sto} (g : Grow H μ H1 μ1) (r : RS G K H1 μ1 s1) {a : Addr} (h : H1 a = none) : H a = none := by
  cases q : H a with
  | none => rfl
  | some o =>
    exfalso
    by_cases hm : a ∈ μ
    · rcases hm with hm | hm
      · obtain ⟨n, hn⟩ := List.mem_iff_getElem?.mp hm
        obtain ⟨u, e⟩ := r.some_ (g.pre n a hn)
        rw [h] at e; cases e
      · have := g.res a hm
        rw [h, q] at this; cases this
    · have := g.keep a o q hm
      rw [h] at this; cases this
theorem Grow.over {H1 H' H4 H5 : Hp} {μ1 μ' μ4 : Mu} {s1 : Sto} {Da : Addr} (r1 : RS G K H1 μ1 s1) (g1 : Grow H1 μ1 H' ⟨μ'.tr, μ1.rs⟩) (hr : μ'.rs = Da :: μ1.rs) (hD : H1 Da = none) (gg : Grow H' μ' H4 μ4) (hh : ∀ a, a ≠ Da → H5 a = H4 a) : Grow H1 μ1 H5 ⟨μ4.tr, μ1.rs⟩ := by
  refine ⟨fun a o h hn => ?_, fun a ha => ?_, fun n p h => gg.pre n p (g1.pre n p h), rfl, fun a ha => ?_⟩
  · have hne : a ≠ Da := ne_of_none h hD
    have h1 := g1.keep a o h hn
    have h2 : a ∉ μ' := fun z => by
      rcases z with z | z
      · exact g1.notin h hn (.inl z)
      · rw [hr] at z
        rcases List.mem_cons.mp z with z | z
        · exact hne z
        · exact hn (.inr z)
    rw [hh a hne]
    exact gg.keep a o h1 h2
  · rcases gg.news a ha with z | z
    · exact g1.news a z
    · by_cases hm : a ∈ μ1
      · rcases hm with hm | hm
        · exact .inl hm
        · right; rw [← g1.res a hm]; exact z
      · right
        cases q : H1 a with
        | none => rfl
        | some o =>
          have := g1.keep a o q hm
          rw [z] at this; cases this
  · have hne : a ≠ Da := fun z => by
      obtain ⟨⟨o, e⟩, _⟩ := r1.rk a ha
      rw [z, hD] at e; cases e
    rw [hh a hne, gg.res a (by rw [hr]; exact List.mem_cons_of_mem _ ha)]
    exact g1.res a ha
theorem RS.rwrite {Da : Addr} {o : HO} (r : RS G K H μ s) (h : Da ∈ μ.rs) : RS G K (upd H Da o) μ s ∧ Mono H μ (upd H Da o) μ := by
  have m : Mono H μ (upd H Da o) μ := ⟨fun a u e hn => by rw [upd_ne (show a ≠ Da from fun z => hn (.inr (z ▸ h)))]; exact e, fun _ _ _ n => n, fun _ _ e => e⟩
  refine ⟨⟨r.len, r.nd, fun n p u e1 e2 => (r.at_ n p u e1 e2).mon m fun u e => ?_, fun a ha => ?_⟩, m⟩
  · have hp : p ∈ μ.tr := List.mem_iff_getElem?.mpr ⟨n, e1⟩
    rw [upd_ne (show p ≠ Da from fun z => (r.rk Da h).2 (z ▸ hp))]
    exact e
  · obtain ⟨⟨u, e⟩, n⟩ := r.rk a ha
    by_cases z : a = Da
    · exact ⟨⟨o, by rw [z, upd_same]⟩, n⟩
    · exact ⟨⟨u, by rw [upd_ne z]; exact e⟩, n⟩
theorem bind_ok_inv {α β : Type} {r : R α} {f : α → Sto → R β} {b : β} {s : Sto} (h : r.bind f = .ok b s) : ∃ a s1, r = .ok a s1 ∧ f a s1 = .ok b s := by
  cases r with
  | ok a s1 => exact ⟨a, s1, rfl, h⟩
  | ex c s1 => cases h
  | stuck => cases h
/-- a comprehension's list while it grows: D is reserved -/
theorem lc_run {wi : TI} {g : TG} {tt : TT} {te : TE} {vs : List Nat} {mi : MI} {tg : MG} {mt : MT} {me : ME} {σ : L2.St} {l : Loc}
    (hkeep : Keeps g vs)
    (hi : okP G K (wi σ H) (fun c d H' => W c d σ H') H μ (RI G K) (mi l s))
    (hg : ∀ (σ : L2.St) (H : Hp) (μ : Mu) (l : Loc) (s : Sto) (v : V) (d : D), RL G K H μ σ l → RS G K H μ s → Rp G K H μ v d → okP G K (fun Q : L2.St → Hp → Prop => g v σ H Q) (fun _ _ _ => False) H μ (RL G K) (tg d l s))
    (ht : ∀ (σ : L2.St) (H : Hp) (μ : Mu) (l : Loc) (s : Sto), RL G K H μ σ l → RS G K H μ s → okP G K (tt σ H) (fun _ _ _ => False) H μ BEq2 (mt l s))
    (he : ∀ (σ : L2.St) (H : Hp) (μ : Mu) (l : Loc) (s : Sto), RL G K H μ σ l → RS G K H μ s → okP G K (te σ H) (fun _ _ _ => False) H μ (Rp G K) (me l s))
    (hl : RL G K H μ σ l) (f : List D → Sto → R D)
    (hf : ∀ (H' : Hp) (μ' : Mu) (s' : Sto) (Da : Addr) (ys : List D) (us : List V) (d : D) (s2 : Sto), f ys s' = .ok d s2 → Grow H μ H' μ' → RS G K H' ⟨μ'.tr, Da :: μ'.rs⟩ s' → H' Da = some (.lst us) → H Da = none → RpA G K H' ⟨μ'.tr, Da :: μ'.rs⟩ us ys → ∃ μ2, Grow H μ H' μ2 ∧ RS G K H' μ2 s2 ∧ Rp G K H' μ2 (.ref Da) d)
    (hfx : ∀ ys s' c s2, f ys s' ≠ .ex c s2) (hfl : ∀ ys s' d s2, f ys s' = .ok d s2 → ys.length ≤ 100000) :
    okP G K (tLc wi g tt te vs σ H) (fun c d H' => W c d σ H') H μ (Rp G K) ((mi l s).bind fun ds s1 => (noEx (lcL tg mt me ds (wipeD l vs) s1)).bind f) := by
  cases e1 : mi l s with
  | stuck => trivial
  | ex c s1 =>
    rw [e1] at hi
    exact fun Q q => hi _ fun C d H' μ' g r cc ff => q C d H' μ' g r cc ff
  | ok ds s1 =>
    rw [e1] at hi
    show okP G K (tLc wi g tt te vs σ H) (fun c d H' => W c d σ H') H μ (Rp G K) ((noEx (lcL tg mt me ds (wipeD l vs) s1)).bind f)
    cases e2 : lcL tg mt me ds (wipeD l vs) s1 with
    | stuck => trivial
    | ex c s2 => trivial
    | ok ys s2 =>
      show okP G K (tLc wi g tt te vs σ H) (fun c d H' => W c d σ H') H μ (Rp G K) (f ys s2)
      cases e3 : f ys s2 with
      | stuck => trivial
      | ex c s3 => exact absurd e3 (hfx _ _ _ _)
      | ok d s3 =>
        intro Q q
        have hlen := hfl _ _ _ _ e3
        refine hi _ fun J H1 μ1 g1 r1 ri Da hD => ?_
        have hDn : Da ∉ μ1 := r1.notin hD
        have hm1 : ∀ {H' : Hp} {μ' : Mu}, Grow H1 μ1 H' ⟨μ'.tr, μ1.rs⟩ → μ'.rs = Da :: μ1.rs → Mono H1 μ1 H' μ' := fun {H' μ'} g hr => by
          refine ⟨g.keep, fun a o h n z => ?_, g.pre⟩
          rcases z with z | z
          · exact g.notin h n (.inl z)
          · rw [hr] at z
            rcases List.mem_cons.mp z with z | z
            · exact ne_of_none h hD z
            · exact n (.inr z)
        refine ⟨fun i m H' => ∃ (μ' : Mu) (s' : Sto) (us : List V) (acc rest : List D), Grow H1 μ1 H' ⟨μ'.tr, μ1.rs⟩ ∧ μ'.rs = Da :: μ1.rs ∧ RS G K H' μ' s' ∧ H' Da = some (.lst us) ∧ RpA G K H' μ' us acc ∧
          lcL tg mt me (ds.drop i) (wipeD l vs) s' = .ok rest s2 ∧ ys = acc ++ rest ∧ i + m = ds.length, ⟨ds.length, ?_⟩, fun i m H' hW => ?_⟩
        · have m0 : Mono H1 μ1 (upd H1 Da (.lst [])) ⟨μ1.tr, Da :: μ1.rs⟩ := by
            refine ⟨fun a o h _ => by rw [upd_ne (ne_of_none h hD)]; exact h, fun a o h n z => ?_, fun _ _ h => h⟩
            rcases z with z | z
            · exact n (.inl z)
            · rcases List.mem_cons.mp z with z | z
              · exact ne_of_none h hD z
              · exact n (.inr z)
          refine ⟨⟨μ1.tr, Da :: μ1.rs⟩, s1, [], [], ys, r1.galloc hD, rfl, ⟨r1.len, r1.nd, fun n p u a b => (r1.at_ n p u a b).mon m0 fun u e => by rw [upd_ne (ne_of_none e hD)]; exact e, fun a ha => ?_⟩, upd_same, .nil, e2, rfl, by omega⟩
          rcases List.mem_cons.mp ha with z | z
          · exact ⟨⟨_, by rw [z, upd_same]⟩, fun w => hDn (.inl (z ▸ w))⟩
          · obtain ⟨⟨o, e⟩, n⟩ := r1.rk a z
            exact ⟨⟨o, by rw [upd_ne (ne_of_none e hD)]; exact e⟩, n⟩
        · obtain ⟨μ', s', us, acc, rest, g', hr, rs', hus, racc, hrun, hys, him⟩ := hW
          have mono' := hm1 g' hr
          obtain ⟨rgo, rstop⟩ := ri H' μ' mono' s' rs' i
          by_cases hi2 : ds.length ≤ i
          · left
            refine ⟨rstop hi2, ?_⟩
            rw [List.drop_of_length_le hi2] at hrun
            simp only [lcL, R.ok.injEq] at hrun
            obtain ⟨rfl, rfl⟩ := hrun
            rw [List.append_nil] at hys
            subst hys
            have em : (⟨μ'.tr, Da :: μ1.rs⟩ : Mu) = μ' := by rw [← hr]
            obtain ⟨μ2, k1, k2, k3⟩ := hf H' ⟨μ'.tr, μ1.rs⟩ s' Da ys us d s3 e3 (g1.trans g') (by show RS G K H' ⟨μ'.tr, Da :: μ1.rs⟩ s'; rw [em]; exact rs') hus (g1.none_back r1 hD) (by show RpA G K H' ⟨μ'.tr, Da :: μ1.rs⟩ us ys; rw [em]; exact racc)
            exact q _ H' μ2 k1 k2 k3
          · right
            have hlt : i < ds.length := by omega
            rw [List.drop_eq_getElem_cons hlt] at hrun
            simp only [lcL] at hrun
            obtain ⟨l1, t1, h1, hrun⟩ := bind_ok_inv hrun
            obtain ⟨b, t2, h2, hrun⟩ := bind_ok_inv hrun
            have hgo := rgo ds[i] (List.getElem?_eq_getElem hlt)
            refine ⟨hgo.1, fun H5 => ∃ (μ' : Mu) (s' : Sto) (us : List V) (acc rest : List D), Grow H1 μ1 H5 ⟨μ'.tr, μ1.rs⟩ ∧ μ'.rs = Da :: μ1.rs ∧ RS G K H5 μ' s' ∧ H5 Da = some (.lst us) ∧ RpA G K H5 μ' us acc ∧
              lcL tg mt me (ds.drop (i + 1)) (wipeD l vs) s' = .ok rest s2 ∧ ys = acc ++ rest, fun H5 h5 => ?_, fun x H'' hy => ?_⟩
            · obtain ⟨a, b, c, dd, e, f1, f2, f3, f4, f5, f6, f7⟩ := h5
              exact ⟨m - 1, by omega, a, b, c, dd, e, f1, f2, f3, f4, f5, f6, f7, by omega⟩
            · obtain ⟨gy, ry, py⟩ := hgo.2 x H'' hy
              have hlw : RL G K H'' μ' (wipe σ vs) (wipeD l vs) := (((hl.mono g1).mon mono').mono gy).wipe vs
              have hDr : Da ∈ μ'.rs := by rw [hr]; exact List.mem_cons_self
              have zg := hg (wipe σ vs) H'' μ' (wipeD l vs) s' x ds[i] hlw ry py
              rw [h1] at zg
              refine hkeep.two (zg _ fun σ2 H2 μ2 g2 r2 p2 => ?_)
              have zt := ht σ2 H2 μ2 l1 t1 p2 r2
              rw [h2] at zt
              refine zt _ fun b' H3 μ3 g3 r3 hb => ?_
              subst hb
              have gg3 : Grow H' μ' H3 μ3 := (gy.trans g2).trans g3
              cases b' with
              | false =>
                rw [if_neg Bool.false_ne_true]
                dsimp only at hrun
                refine ⟨μ3, t2, us, acc, rest, Grow.over r1 g' hr hD gg3 fun _ _ => rfl, gg3.rs.trans hr, r3, ?_, racc.mono gg3, hrun, hys⟩
                rw [gg3.res Da hDr]; exact hus
              | true =>
                rw [if_pos rfl]
                dsimp only at hrun
                obtain ⟨y, t3, h3, hrun⟩ := bind_ok_inv hrun
                obtain ⟨ys', t4, h4, hrun⟩ := bind_ok_inv hrun
                simp only [R.ok.injEq] at hrun
                obtain ⟨rfl, rfl⟩ := hrun
                have ze := he σ2 H3 μ3 l1 t2 (p2.mono g3) r3
                rw [h3] at ze
                refine ze _ fun v H4 μ4 g4 r4 p4 => ?_
                have gg4 : Grow H' μ' H4 μ4 := gg3.trans g4
                have hr4 : μ4.rs = Da :: μ1.rs := gg4.rs.trans hr
                have hus4 : H4 Da = some (.lst us) := by rw [gg4.res Da hDr]; exact hus
                refine ⟨us, hus4, lt_line ?_, ?_⟩
                · rw [racc.length]
                  have : ys.length = acc.length + (ys'.length + 1) := by rw [hys, List.length_append, List.length_cons]
                  omega
                · obtain ⟨r5, m5⟩ := r4.rwrite (Da := Da) (o := .lst (us ++ [v])) (by rw [hr4]; exact List.mem_cons_self)
                  refine ⟨μ4, t3, us ++ [v], acc ++ [y], ys', Grow.over r1 g' hr hD gg4 fun a ha => upd_ne ha, hr4, r5, upd_same, ((racc.mono gg4).append (.cons p4 .nil)).mon m5, h4, ?_⟩
                  rw [hys, List.append_assoc]; rfl
/-- the list is frozen -/
theorem lc_frozen {s0 s' : Sto} {Da : Addr} {us : List V} {ys : List D} (r0 : RS G K H μ s0) {H' : Hp} {μ' : Mu} (g : Grow H μ H' μ') (r : RS G K H' ⟨μ'.tr, Da :: μ'.rs⟩ s') (hD : H' Da = some (.lst us)) (h0 : H Da = none) (p : RpA G K H' ⟨μ'.tr, Da :: μ'.rs⟩ us ys) :
    Grow H μ H' μ' ∧ RS G K H' μ' s' ∧ Rp G K H' μ' (.ref Da) (.lst ys) := by
  have m : Mono H' ⟨μ'.tr, Da :: μ'.rs⟩ H' μ' := ⟨fun _ _ h _ => h, fun a o h n z => by
    rcases z with z | z
    · exact n (.inl z)
    · exact n (.inr (List.mem_cons_of_mem _ z)), fun _ _ h => h⟩
  refine ⟨g, ⟨r.len, r.nd, fun n q u a b => (r.at_ n q u a b).mon m fun u e => e, fun a ha => r.rk a (List.mem_cons_of_mem _ ha)⟩, .lst hD (fun z => ?_) (p.mon m)⟩
  rcases z with z | z
  · exact (r.rk Da List.mem_cons_self).2 z
  · rw [g.rs] at z
    obtain ⟨⟨o, e⟩, _⟩ := r0.rk Da z
    rw [h0] at e; cases e
/-- the list is tracked -/
theorem lc_tracked {s0 s' : Sto} {Da : Addr} {us : List V} {ys : List D} (r0 : RS G K H μ s0) {H' : Hp} {μ' : Mu} (g : Grow H μ H' μ') (r : RS G K H' ⟨μ'.tr, Da :: μ'.rs⟩ s') (hD : H' Da = some (.lst us)) (h0 : H Da = none) (p : RpA G K H' ⟨μ'.tr, Da :: μ'.rs⟩ us ys) :
    Grow H μ H' (μ'.add Da) ∧ RS G K H' (μ'.add Da) (s' ++ [.lst ys]) ∧ Rp G K H' (μ'.add Da) (.ref Da) (.ref s'.length) := by
  have hn : Da ∉ μ'.rs := fun z => by
    rw [g.rs] at z
    obtain ⟨⟨o, e⟩, _⟩ := r0.rk Da z
    rw [h0] at e; cases e
  have ht : Da ∉ μ'.tr := (r.rk Da List.mem_cons_self).2
  have m : Mono H' ⟨μ'.tr, Da :: μ'.rs⟩ H' (μ'.add Da) := ⟨fun _ _ h _ => h, fun a o h n z => by
    rcases z with z | z
    · rcases List.mem_append.mp z with z | z
      · exact n (.inl z)
      · rw [List.mem_singleton] at z
        exact n (.inr (by rw [z]; exact List.mem_cons_self))
    · exact n (.inr (List.mem_cons_of_mem _ z)), fun n q e => by
    show (μ'.tr ++ [Da])[n]? = some q
    have e : μ'.tr[n]? = some q := e
    rw [List.getElem?_append_left (List.getElem?_eq_some_iff.mp e).1]; exact e⟩
  have hlen : μ'.tr.length = s'.length := r.len
  have hlast : (μ'.tr ++ [Da])[s'.length]? = some Da := by rw [← hlen, List.getElem?_append_right (Nat.le_refl _), Nat.sub_self]; rfl
  refine ⟨⟨g.keep, fun a ha => ?_, fun n q e => ?_, g.rs, g.res⟩, ⟨?_, ?_, fun n q u a b => ?_, fun a ha => ?_⟩, .ref hlast⟩
  · rcases List.mem_append.mp ha with z | z
    · exact g.news a z
    · rw [List.mem_singleton] at z; right; rw [z]; exact h0
  · have e := g.pre n q e
    show (μ'.tr ++ [Da])[n]? = some q
    rw [List.getElem?_append_left (List.getElem?_eq_some_iff.mp e).1]; exact e
  · show (μ'.tr ++ [Da]).length = _
    rw [List.length_append, List.length_append, hlen]; rfl
  · show (μ'.tr ++ [Da]).Nodup
    rw [List.nodup_append]
    refine ⟨r.nd, by simp, fun a ha b hb => ?_⟩
    rw [List.mem_singleton] at hb
    subst hb
    intro z
    subst z
    exact ht ha
  · have a : (μ'.tr ++ [Da])[n]? = some q := a
    by_cases hlt : n < μ'.tr.length
    · rw [List.getElem?_append_left hlt] at a
      rw [List.getElem?_append_left (by rw [← hlen]; exact hlt)] at b
      exact (r.at_ n q u a b).mon m fun u e => e
    · have hn2 : n = s'.length := by
        have := (List.getElem?_eq_some_iff.mp a).1
        rw [List.length_append] at this
        simp at this
        omega
      subst hn2
      rw [hlast] at a
      cases a
      rw [List.getElem?_append_right (Nat.le_refl _), Nat.sub_self] at b
      simp at b
      subst b
      exact ⟨us, hD, p.mon m⟩
  · obtain ⟨e, n⟩ := r.rk a (List.mem_cons_of_mem _ ha)
    refine ⟨e, fun z => ?_⟩
    rcases List.mem_append.mp z with z | z
    · exact n z
    · rw [List.mem_singleton] at z
      exact hn (z ▸ ha)
end
end DL


namespace DL
open PySem PySem.Spec PyProof.Rows L2
section
variable {X : Cx} {G : Gm} {K : PySem.W.Frag} {H : Hp} {μ : Mu} {s : Sto} {W : WX} {k : Nat}

/-! ### comprehensions as expressions -/
section
variable {elt tg iter : Expr} {ifs : List Expr} {scope : Scope} {own : List (Str × Nat)} {pos : Pos} {wi : TI} {g : TG} {tt : TT} {te : TE} {mi : MI} {mg : MG} {mt : MT} {me : ME}
theorem lc_sim (hi : JI X G W tg iter wi mi) (hk : Keeps g (own.map (·.2)))
    (hg : ∀ (s : Shared) (H : Hp) (C : Addr) (cl : List (Str × Addr)) (fp : List Addr), JG (X.blk s H scope (compEnvC scope cl C X.env) fp) G W0 tg g mg) (ht : ∀ (s : Shared) (H : Hp) (C : Addr) (cl : List (Str × Addr)) (fp : List Addr), JTs (X.blk s H scope (compEnvC scope cl C X.env) fp) G W0 ifs tt mt)
    (he : ∀ (s : Shared) (H : Hp) (C : Addr) (cl : List (Str × Addr)) (fp : List Addr), JE (X.blk s H scope (compEnvC scope cl C X.env) fp) G W0 elt te me) :
    (∀ (σ : L2.St) (H : Hp) (μ : Mu) (l : Loc) (s : Sto), RL G G.K H μ σ l → RS G G.K H μ s → okP G G.K (tLc wi g tt te (own.map (·.2)) σ H) (fun c d H' => W c d σ H') H μ (Rp G G.K) (mLc (own.map (·.2)) mi mg mt me l s)) ∧
    (∀ (σ : L2.St) (H : Hp) (μ : Mu) (l : Loc) (s : Sto), RL G G.K H μ σ l → RS G G.K H μ s → okP G G.K (tLc wi g tt te (own.map (·.2)) σ H) (fun c d H' => W c d σ H') H μ (Rp G G.K) (mLcN (own.map (·.2)) mi mg mt me l s)) := by
  have kg := (hg X.s_0 X.H_0 0 [] []).sim
  have kt := (ht X.s_0 X.H_0 0 [] []).sim
  have ke := (he X.s_0 X.H_0 0 [] []).sim
  refine ⟨fun σ H μ l s hl hs => ?_, fun σ H μ l s hl hs => ?_⟩
  · refine lc_run hk (hi.sim σ H μ l s hl hs) kg kt ke hl (fun ys s2 => if ys.length ≤ 100000 then .ok (.lst ys) s2 else .stuck) (fun H' μ' s' Da ys us d s2 e g r hD h0 p => ?_) (fun ys s' c s2 e => ?_) (fun ys s' d s2 e => ?_)
    · split at e
      · cases e; exact ⟨μ', lc_frozen hs g r hD h0 p⟩
      · cases e
    · split at e <;> cases e
    · split at e
      · assumption
      · cases e
  · refine lc_run hk (hi.sim σ H μ l s hl hs) kg kt ke hl (fun ys s2 => if ys.length ≤ 100000 then .ok (.ref s2.length) (s2 ++ [.lst ys]) else .stuck) (fun H' μ' s' Da ys us d s2 e g r hD h0 p => ?_) (fun ys s' c s2 e => ?_) (fun ys s' d s2 e => ?_)
    · split at e
      · cases e; exact ⟨_, lc_tracked hs g r hD h0 p⟩
      · cases e
    · split at e <;> cases e
    · split at e
      · assumption
      · cases e
theorem je_lc (hc : X.calm = true) (hN : X.N.Nodup) (hi : JI X G W tg iter wi mi) (ok : BlkOk X.N X.env.scope scope own) (hk : Keeps g (own.map (·.2)))
    (hg : ∀ (s : Shared) (H : Hp) (C : Addr) (cl : List (Str × Addr)) (fp : List Addr), JG (X.blk s H scope (compEnvC scope cl C X.env) fp) G W0 tg g mg) (ht : ∀ (s : Shared) (H : Hp) (C : Addr) (cl : List (Str × Addr)) (fp : List Addr), JTs (X.blk s H scope (compEnvC scope cl C X.env) fp) G W0 ifs tt mt)
    (he : ∀ (s : Shared) (H : Hp) (C : Addr) (cl : List (Str × Addr)) (fp : List Addr), JE (X.blk s H scope (compEnvC scope cl C X.env) fp) G W0 elt te me) (hs : ∀ x, foldedSetIterable iter X.env x = pure x := by intro _; rfl) :
    JE X G W (.ListComp elt [⟨tg, iter, ifs, 0⟩] scope pos) (tLc wi g tt te (own.map (·.2))) (mLc (own.map (·.2)) mi mg mt me) :=
  ⟨fun tk => pe_lc hc hN (hi.pe tk) ok (fun s H C cl fp => (hg s H C cl fp).pe takes0) (fun s H C cl fp => (ht s H C cl fp).pe takes0) (fun s H C cl fp => (he s H C cl fp).pe takes0) hs, (lc_sim hi hk hg ht he).1⟩
theorem je_lcN (hc : X.calm = true) (hN : X.N.Nodup) (hi : JI X G W tg iter wi mi) (ok : BlkOk X.N X.env.scope scope own) (hk : Keeps g (own.map (·.2)))
    (hg : ∀ (s : Shared) (H : Hp) (C : Addr) (cl : List (Str × Addr)) (fp : List Addr), JG (X.blk s H scope (compEnvC scope cl C X.env) fp) G W0 tg g mg) (ht : ∀ (s : Shared) (H : Hp) (C : Addr) (cl : List (Str × Addr)) (fp : List Addr), JTs (X.blk s H scope (compEnvC scope cl C X.env) fp) G W0 ifs tt mt)
    (he : ∀ (s : Shared) (H : Hp) (C : Addr) (cl : List (Str × Addr)) (fp : List Addr), JE (X.blk s H scope (compEnvC scope cl C X.env) fp) G W0 elt te me) (hs : ∀ x, foldedSetIterable iter X.env x = pure x := by intro _; rfl) :
    JE X G W (.ListComp elt [⟨tg, iter, ifs, 0⟩] scope pos) (tLc wi g tt te (own.map (·.2))) (mLcN (own.map (·.2)) mi mg mt me) :=
  ⟨fun tk => pe_lc hc hN (hi.pe tk) ok (fun s H C cl fp => (hg s H C cl fp).pe takes0) (fun s H C cl fp => (ht s H C cl fp).pe takes0) (fun s H C cl fp => (he s H C cl fp).pe takes0) hs, (lc_sim hi hk hg ht he).2⟩
end

/-! ### statements -/
structure JS (X : Cx) (G : Gm) (W : WX) (st : Stmt) (t : TS) (m : MS) : Prop where
  pe : Takes X W → PassesOwn (model X.prog X.w) X.A X.env X.xe → PS X st t
  sim : ∀ (σ : L2.St) (H : Hp) (μ : Mu) (l : Loc) (s : Sto), RL G G.K H μ σ l → RS G G.K H μ s → okS G G.K t W σ H μ (m l s)
structure JSs (X : Cx) (G : Gm) (W : WX) (st : List Stmt) (t : TS) (m : MS) : Prop where
  pe : Takes X W → PassesOwn (model X.prog X.w) X.A X.env X.xe → PSs X st t
  sim : ∀ (σ : L2.St) (H : Hp) (μ : Mu) (l : Loc) (s : Sto), RL G G.K H μ σ l → RS G G.K H μ s → okS G G.K t W σ H μ (m l s)
def mNext : MS := fun l s => .nx l s
def mSeq (m n : MS) : MS := fun l s => match m l s with
  | .nx l1 s1 => n l1 s1
  | o => o
section
variable {st : Stmt} {rest : List Stmt} {t u : TS} {m n : MS} {e : Expr} {te : TE} {me : ME} {pos : Pos}
theorem jss_nil : JSs X G W [] tNext mNext := ⟨fun _ _ => pss_nil, fun σ H μ l s hl hs D q => q σ H μ Grow.refl hl hs⟩
theorem jss_one (h : JS X G W st t m) : JSs X G W [st] t m := ⟨fun a b => pss_one (h.pe a b), h.sim⟩
theorem jss_cons (h1 : JS X G W st t m) (h2 : JSs X G W rest u n) : JSs X G W (st :: rest) (tSeq t u) (mSeq m n) := by
  refine ⟨fun a b => pss_cons (h1.pe a b) (h2.pe a b), fun σ H μ l s hl hs D q => ?_⟩
  refine h1.sim σ H μ l s hl hs { D with nx := u D } ?_
  unfold mSeq at q
  cases e : m l s with
  | nx l1 s1 =>
    rw [e] at q
    exact fun σ' H' μ' g rl rs => h2.sim σ' H' μ' l1 s1 rl rs D (q.up g)
  | rt d s1 => rw [e] at q; exact q
  | bk l1 s1 => rw [e] at q; exact q
  | ct l1 s1 => rw [e] at q; exact q
  | ex x l1 s1 => rw [e] at q; exact q
  | stuck => rw [e] at q; exact q
/-- locals behind, as an outcome -/
def toOut (l : Loc) : R Loc → Out
  | .ok l1 s1 => .nx l1 s1
  | .ex c s1 => .ex c l s1
  | .stuck => .stuck
theorem okS_of {T : (L2.St → Hp → Prop) → Prop} {t : TS} {σ : L2.St} {l : Loc} {r : R Loc} (ht : ∀ D : Ends, t D σ H = T D.nx) (hl : RL G K H μ σ l) (h : okP G K T (fun c d H' => W c d σ H') H μ (RL G K) r) : okS G K t W σ H μ (toOut l r) := by
  intro D q
  rw [ht]
  cases r with
  | ok l1 s1 => exact h _ fun σ' H' μ' g rs rl => q σ' H' μ' g rl rs
  | ex c s1 => exact h _ fun C d H' μ' g rs hc hf => q C d σ H' μ' g (hl.mono g) rs hc hf
  | stuck => exact q.elim
def mAsg (me : ME) (mg : MG) : MS := fun l s => toOut l ((me l s).bind fun d s1 => mg d l s1)
theorem js_asg {tg : Expr} {g : TG} {mg : MG} (he : JE X G W e te me) (hg : JG X G W tg g mg) (hs : swapsWithSole [tg] e pos.line X.env = pure false := by rfl) (hw : swappedStores [tg] e X.env = pure none := by rfl)
    (h1 : (assignEach [tg] X.env).map (·.2) = [assign tg X.env] := by rfl) : JS X G W (.Assign [tg] e pos) (tAsg te g) (mAsg me mg) :=
  ⟨fun a _ => ps_asg (he.pe a) (hg.pe a) hs hw h1, fun σ H μ l s hl hs => okS_of (T := fun Q => te σ H fun x H1 => g x σ H1 Q) (fun _ => rfl) hl
    ((he.sim σ H μ l s hl hs).bind fun x H1 μ1 d s1 g1 r1 p1 => hg.sim σ H1 μ1 l s1 x d (hl.mono g1) r1 p1)⟩
theorem js_set {i : Nat} {x : Str} {pos' : Pos} (hN : X.N.Nodup) (he : JE X G W e te me) (hi : X.N[i]? = some x := by rfl) (hx : L2.Loc X.env.scope x := by first | exact Or.inl rfl | exact Or.inr rfl) (hs : swapsWith e (some (.Name x pos')) pos.line X.env = pure false := by rfl) (hf : X.fn x = true ∨ X.env.scope.names.lookup x = some .local := by first | exact .inl rfl | exact .inr rfl | assumption) :
    JS X G W (.Assign [.Name x pos'] e pos) (tAsg te (gName i)) (mAsg me (mgName i)) :=
  ⟨fun a _ => ps_set hN hi hx (he.pe a) hs hf, fun σ H μ l s hl hs => okS_of (T := fun Q => te σ H fun x H1 => gName i x σ H1 Q) (fun _ => rfl) hl
    ((he.sim σ H μ l s hl hs).bind fun x H1 μ1 d s1 g1 r1 p1 => fun Q q => q _ H1 μ1 Grow.refl r1 ((hl.mono g1).set p1))⟩
/-- name = [..] -/
theorem js_setLc {i : Nat} {y : Str} {py : Pos} {elt tg iter : Expr} {ifs : List Expr} {scope : Scope} {own : List (Str × Nat)} {spos : Pos} {wi : TI} {g : TG} {tt : TT} {mi : MI} {mg : MG} {mt : MT} (hc : X.calm = true) (hN : X.N.Nodup) (hi : JI X G W tg iter wi mi) (ok : BlkOk X.N X.env.scope scope own) (hk : Keeps g (own.map (·.2)))
    (hg : ∀ (s : Shared) (H : Hp) (C : Addr) (cl : List (Str × Addr)) (fp : List Addr), JG (X.blk s H scope (compEnvC scope cl C X.env) fp) G W0 tg g mg) (ht : ∀ (s : Shared) (H : Hp) (C : Addr) (cl : List (Str × Addr)) (fp : List Addr), JTs (X.blk s H scope (compEnvC scope cl C X.env) fp) G W0 ifs tt mt)
    (he : ∀ (s : Shared) (H : Hp) (C : Addr) (cl : List (Str × Addr)) (fp : List Addr), JE (X.blk s H scope (compEnvC scope cl C X.env) fp) G W0 elt te me)
    (hy : X.N[i]? = some y := by rfl) (hyl : X.env.scope.names.lookup y = some .local := by rfl) (hsw : swapsWith (.ListComp elt [⟨tg, iter, ifs, 0⟩] scope pos) (some (.Name y py)) spos.line X.env = pure true := by exact sw_true rfl rfl rfl (by decide +kernel)) (hs : ∀ x, foldedSetIterable iter X.env x = pure x := by intro _; rfl) :
    JS X G W (.Assign [.Name y py] (.ListComp elt [⟨tg, iter, ifs, 0⟩] scope pos) spos) (tAsg (tLc wi g tt te (own.map (·.2))) (gName i)) (mAsg (mLc (own.map (·.2)) mi mg mt me) (mgName i)) :=
  ⟨fun tk _ => ps_setLc hc hN hy hyl hsw (hi.pe tk) ok (fun s H C cl fp => (hg s H C cl fp).pe takes0) (fun s H C cl fp => (ht s H C cl fp).pe takes0) (fun s H C cl fp => (he s H C cl fp).pe takes0) hs,
    fun σ H μ l s hl hs => okS_of (T := fun Q => tLc wi g tt te (own.map (·.2)) σ H fun x H1 => gName i x σ H1 Q) (fun _ => rfl) hl
    (okP.bind (u := fun x H1 Q => gName i x σ H1 Q) (f := fun d s1 => mgName i d l s1) (Rm := RL G G.K) ((lc_sim hi hk hg ht he).1 σ H μ l s hl hs) fun x H1 μ1 d s1 g1 r1 p1 => fun Q q => q _ H1 μ1 Grow.refl r1 ((hl.mono g1).set p1))⟩
theorem js_setLcN {i : Nat} {y : Str} {py : Pos} {elt tg iter : Expr} {ifs : List Expr} {scope : Scope} {own : List (Str × Nat)} {spos : Pos} {wi : TI} {g : TG} {tt : TT} {mi : MI} {mg : MG} {mt : MT} (hc : X.calm = true) (hN : X.N.Nodup) (hi : JI X G W tg iter wi mi) (ok : BlkOk X.N X.env.scope scope own) (hk : Keeps g (own.map (·.2)))
    (hg : ∀ (s : Shared) (H : Hp) (C : Addr) (cl : List (Str × Addr)) (fp : List Addr), JG (X.blk s H scope (compEnvC scope cl C X.env) fp) G W0 tg g mg) (ht : ∀ (s : Shared) (H : Hp) (C : Addr) (cl : List (Str × Addr)) (fp : List Addr), JTs (X.blk s H scope (compEnvC scope cl C X.env) fp) G W0 ifs tt mt)
    (he : ∀ (s : Shared) (H : Hp) (C : Addr) (cl : List (Str × Addr)) (fp : List Addr), JE (X.blk s H scope (compEnvC scope cl C X.env) fp) G W0 elt te me)
    (hy : X.N[i]? = some y := by rfl) (hyl : X.env.scope.names.lookup y = some .local := by rfl) (hsw : swapsWith (.ListComp elt [⟨tg, iter, ifs, 0⟩] scope pos) (some (.Name y py)) spos.line X.env = pure true := by exact sw_true rfl rfl rfl (by decide +kernel)) (hs : ∀ x, foldedSetIterable iter X.env x = pure x := by intro _; rfl) :
    JS X G W (.Assign [.Name y py] (.ListComp elt [⟨tg, iter, ifs, 0⟩] scope pos) spos) (tAsg (tLc wi g tt te (own.map (·.2))) (gName i)) (mAsg (mLcN (own.map (·.2)) mi mg mt me) (mgName i)) :=
  ⟨fun tk _ => ps_setLc hc hN hy hyl hsw (hi.pe tk) ok (fun s H C cl fp => (hg s H C cl fp).pe takes0) (fun s H C cl fp => (ht s H C cl fp).pe takes0) (fun s H C cl fp => (he s H C cl fp).pe takes0) hs,
    fun σ H μ l s hl hs => okS_of (T := fun Q => tLc wi g tt te (own.map (·.2)) σ H fun x H1 => gName i x σ H1 Q) (fun _ => rfl) hl
    (okP.bind (u := fun x H1 Q => gName i x σ H1 Q) (f := fun d s1 => mgName i d l s1) (Rm := RL G G.K) ((lc_sim hi hk hg ht he).2 σ H μ l s hl hs) fun x H1 μ1 d s1 g1 r1 p1 => fun Q q => q _ H1 μ1 Grow.refl r1 ((hl.mono g1).set p1))⟩
/-- a, b = x, y -/
def mPar (i j : Nat) (ma : MA) : MS := fun l s => toOut l ((ma l s).bind fun ds s1 => match ds with
  | [d, e] => .ok ((l.set i (some d)).set j (some e)) s1
  | _ => .stuck)
theorem js_par {i j : Nat} {x y : Str} {a b : Expr} {ta : TA} {ma : MA} {px py pt : Pos} {kt k2 pt2} (hc : X.calm = true) (hN : X.N.Nodup) (ha : JA X G W [a, b] ta ma) (hi : X.N[i]? = some x := by rfl) (hj : X.N[j]? = some y := by rfl) (hij : i ≠ j := by decide)
    (hx : X.env.scope.names.lookup x = some .local := by rfl) (hy : X.env.scope.names.lookup y = some .local := by rfl)
    (hw : swappedStores [.Tuple [.Name x px, .Name y py] kt pt] (.Tuple [a, b] k2 pt2) X.env = pure (some [x, y]) := by rfl)
    (hs : swapsWithSole [.Tuple [.Name x px, .Name y py] kt pt] (.Tuple [a, b] k2 pt2) pos.line X.env = pure false := by rfl) :
    JS X G W (.Assign [.Tuple [.Name x px, .Name y py] kt pt] (.Tuple [a, b] k2 pt2) pos) (tPar i j ta) (mPar i j ma) := by
  refine ⟨fun tk _ => ps_par hc hN hi hj hij hx hy (ha.pe tk) hw hs, fun σ H μ l s hl hs => ?_⟩
  refine okS_of (T := fun Q => ta σ H fun vs H1 => ∃ v w, vs = [v, w] ∧ Q ((σ.set i (some v)).set j (some w)) H1) (fun _ => rfl) hl ((ha.sim σ H μ l s hl hs).bind fun xs H1 μ1 ds s1 g1 r1 p1 => ?_)
  split
  · obtain ⟨v, u, rfl, p0, p2⟩ := p1.two
    exact fun Q q => ⟨v, u, rfl, q _ H1 μ1 Grow.refl r1 (((hl.mono g1).set p0).set p2)⟩
  · trivial
def mPar3 (i j n : Nat) (ma : MA) : MS := fun l s => toOut l ((ma l s).bind fun ds s1 => match ds with
  | [d, e, f] => .ok (((l.set i (some d)).set j (some e)).set n (some f)) s1
  | _ => .stuck)
theorem RpA.three {vs : List V} {d e f : D} (p : RpA G K H μ vs [d, e, f]) : ∃ v u w, vs = [v, u, w] ∧ Rp G K H μ v d ∧ Rp G K H μ u e ∧ Rp G K H μ w f := by
  cases p with | cons a b => cases b with | cons c b => cases b with | cons d b => cases b; exact ⟨_, _, _, rfl, a, c, d⟩
theorem js_par3 {i j n : Nat} {x y z : Str} {a b c : Expr} {ta : TA} {ma : MA} {px py pz pt : Pos} {kt k2 pt2} (hc : X.calm = true) (hN : X.N.Nodup) (ha : JA X G W [a, b, c] ta ma) (hi : X.N[i]? = some x := by rfl) (hj : X.N[j]? = some y := by rfl) (hl : X.N[n]? = some z := by rfl) (hij : i ≠ j := by decide) (hil : i ≠ n := by decide) (hjl : j ≠ n := by decide)
    (hx : X.env.scope.names.lookup x = some .local := by rfl) (hy : X.env.scope.names.lookup y = some .local := by rfl) (hz : X.env.scope.names.lookup z = some .local := by rfl)
    (hw : swappedStores [.Tuple [.Name x px, .Name y py, .Name z pz] kt pt] (.Tuple [a, b, c] k2 pt2) X.env = pure (some [x, y, z]) := by rfl)
    (hs : swapsWithSole [.Tuple [.Name x px, .Name y py, .Name z pz] kt pt] (.Tuple [a, b, c] k2 pt2) pos.line X.env = pure false := by rfl) :
    JS X G W (.Assign [.Tuple [.Name x px, .Name y py, .Name z pz] kt pt] (.Tuple [a, b, c] k2 pt2) pos) (tPar3 i j n ta) (mPar3 i j n ma) := by
  refine ⟨fun tk _ => ps_par3 hc hN hi hj hl hij hil hjl hx hy hz (ha.pe tk) hw hs, fun σ H μ l s hl hs => ?_⟩
  refine okS_of (T := fun Q => ta σ H fun vs H1 => ∃ u v w, vs = [u, v, w] ∧ Q (((σ.set i (some u)).set j (some v)).set n (some w)) H1) (fun _ => rfl) hl ((ha.sim σ H μ l s hl hs).bind fun xs H1 μ1 ds s1 g1 r1 p1 => ?_)
  split
  · obtain ⟨v, u, w, rfl, p0, p2, p3⟩ := p1.three
    exact fun Q q => ⟨v, u, w, rfl, q _ H1 μ1 Grow.refl r1 ((((hl.mono g1).set p0).set p2).set p3)⟩
  · trivial
/-- x op= e -/
def mAug (i : Nat) (f : D → D → Sto → R D) (me : ME) : MS := fun l s => toOut l (match l[i]? with
  | some (some d) => (me l s).bind fun e s1 => (f d e s1).bind fun z s2 => .ok (l.set i (some z)) s2
  | _ => .stuck)
theorem js_aug {i : Nat} {x : Str} {op : Operator} {r : R2} {f : D → D → Sto → R D} {pos' : Pos} (hN : X.N.Nodup) (ho : OpR X (inplaceOp op) r) (hsim : SimR G G.K r f) (he : JE X G W e te me) (hi : X.N[i]? = some x := by rfl) (hx : L2.Loc X.env.scope x := by first | exact Or.inl rfl | exact Or.inr rfl) (hf : X.fn x = true ∨ X.env.scope.names.lookup x = some .local := by first | exact .inl rfl | exact .inr rfl | assumption) :
    JS X G W (.AugAssign (.Name x pos') op e pos) (tAug i te r) (mAug i f me) := by
  refine ⟨fun tk _ => ps_aug hN hi hx (he.pe tk) ho hf, fun σ H μ l s hl hs => ?_⟩
  refine okS_of (T := fun Q => ∃ x, σ[i]? = some (some x) ∧ te σ H fun y H1 => r x y H1 fun z H2 => Q (σ.set i (some z)) H2) (fun _ => rfl) hl ?_
  cases e1 : l[i]? with
  | none => trivial
  | some o =>
    cases o with
    | none => trivial
    | some d =>
      obtain ⟨v, h1, h2⟩ := hl.2 i d e1
      have z : okP G G.K (fun Q : L2.St → Hp → Prop => te σ H fun y H1 => r v y H1 fun z H2 => Q (σ.set i (some z)) H2) (fun c d H' => W c d σ H') H μ (RL G G.K) ((me l s).bind fun e s1 => (f d e s1).bind fun z s2 => .ok (l.set i (some z)) s2) := by
        refine (he.sim σ H μ l s hl hs).bind (u := fun y H1 Q => r v y H1 fun z H2 => Q (σ.set i (some z)) H2) fun y H1 μ1 e s1 g1 r1 p1 => ?_
        refine (hsim H1 μ1 s1 v y d e _ r1 (h2.mono g1) p1).bind (u := fun z H2 Q => Q (σ.set i (some z)) H2) fun z H2 μ2 zd s2 g2 r2 p2 => ?_
        exact fun Q q => q _ H2 μ2 Grow.refl r2 (((hl.mono g1).mono g2).set p2)
      dsimp only
      generalize ((me l s).bind fun e s1 => (f d e s1).bind fun z s2 => .ok (l.set i (some z)) s2) = rr at z ⊢
      cases rr with
      | ok a s2 => exact fun Q q => ⟨v, h1, z Q q⟩
      | ex a s2 => exact fun Q q => ⟨v, h1, z Q q⟩
      | stuck => trivial
def mRet (me : ME) : MS := fun l s => match me l s with
  | .ok d s1 => .rt d s1
  | .ex c s1 => .ex c l s1
  | .stuck => .stuck
theorem js_ret (he : JE X G W e te me) : JS X G W (.Return (some e) pos) (tRet te) (mRet me) := by
  refine ⟨fun tk _ => ps_ret (he.pe tk), fun σ H μ l s hl hs D q => ?_⟩
  have z := he.sim σ H μ l s hl hs
  unfold mRet at q
  cases e : me l s with
  | ok d s1 => rw [e] at z q; exact z _ fun v H' μ' g r p => q v H' μ' g r p
  | ex c s1 => rw [e] at z q; exact z _ fun C d H' μ' g r hc hf => q C d σ H' μ' g (hl.mono g) r hc hf
  | stuck => rw [e] at q; exact q.elim
def mRetN : MS := fun _ s => .rt .non s
theorem js_retN : JS X G W (.Return none pos) tRetN mRetN := ⟨fun _ _ => ps_retN, fun σ H μ l s hl hs D q => q .non H μ Grow.refl hs .non⟩
theorem js_pass : JS X G W (.Pass pos) tNext mNext := ⟨fun _ _ => ps_pass, fun σ H μ l s hl hs D q => q σ H μ Grow.refl hl hs⟩
def mBrk : MS := fun l s => .bk l s
def mCnt : MS := fun l s => .ct l s
theorem js_brk : JS X G W (.Break pos) tBreak mBrk := ⟨fun _ _ => ps_break, fun σ H μ l s hl hs D q => q σ H μ Grow.refl hl hs⟩
theorem js_cnt : JS X G W (.Continue pos) tCont mCnt := ⟨fun _ _ => ps_continue, fun σ H μ l s hl hs D q => q σ H μ Grow.refl hl hs⟩
def mExpr (me : ME) : MS := fun l s => toOut l ((me l s).bind fun _ s1 => .ok l s1)
theorem js_expr (he : JE X G W e te me) (hs : swapsWith e none pos.line X.env = pure false := by rfl) : JS X G W (.Expr e pos) (tDrop te) (mExpr me) :=
  ⟨fun tk _ => ps_expr (he.pe tk) hs, fun σ H μ l s hl hs => okS_of (T := fun Q => te σ H fun _ H1 => Q σ H1) (fun _ => rfl) hl
    ((he.sim σ H μ l s hl hs).bind fun x H1 μ1 d s1 g1 r1 p1 => fun Q q => q σ H1 μ1 Grow.refl r1 (hl.mono g1))⟩
def mIfS (mc : MT) (m n : MS) : MS := fun l s => match mc l s with
  | .ok true s1 => m l s1
  | .ok false s1 => n l s1
  | .ex c s1 => .ex c l s1
  | .stuck => .stuck
theorem js_if {c : Expr} {a b : List Stmt} {tc : TT} {mc : MT} (hc : JT X G W c tc mc) (ha : JSs X G W a t m) (hb : JSs X G W b u n) : JS X G W (.If c a b pos) (tIfS tc t u) (mIfS mc m n) := by
  refine ⟨fun tk po => ps_if (hc.pe tk) (ha.pe tk po) (hb.pe tk po), fun σ H μ l s hl hs D q => ?_⟩
  have z := hc.sim σ H μ l s hl hs
  unfold mIfS at q
  cases e : mc l s with
  | ok b s1 =>
    rw [e] at z q
    refine z _ fun b' H' μ' g r hb' => ?_
    subst hb'
    cases b' with
    | true => rw [if_pos rfl]; exact ha.sim σ H' μ' l s1 (hl.mono g) r D (Post.up g q)
    | false => rw [if_neg Bool.false_ne_true]; exact hb.sim σ H' μ' l s1 (hl.mono g) r D (Post.up g q)
  | ex c s1 => rw [e] at z q; exact z _ fun C d H' μ' g r hc hf => q C d σ H' μ' g (hl.mono g) r hc hf
  | stuck => rw [e] at q; exact q.elim
end

/-! ### loops -/
def forL (mg : MG) (mb : MS) : List D → MS
  | [], l, s => .nx l s
  | d :: ds, l, s => match mg d l s with
    | .ok l1 s1 => match mb l1 s1 with
      | .nx l2 s2 => forL mg mb ds l2 s2
      | .ct l2 s2 => forL mg mb ds l2 s2
      | .bk l2 s2 => .nx l2 s2
      | .rt d s2 => .rt d s2
      | .ex c l2 s2 => .ex c l2 s2
      | .stuck => .stuck
    | .ex c s1 => .ex c l s1
    | .stuck => .stuck
def mFor (mi : MI) (mg : MG) (mb : MS) : MS := fun l s => match mi l s with
  | .ok ds s1 => forL mg mb ds l s1
  | .ex c s1 => .ex c l s1
  | .stuck => .stuck
theorem js_for {tg iter : Expr} {body : List Stmt} {wi : TI} {g : TG} {tb : TS} {mi : MI} {mg : MG} {mb : MS} {pos : Pos} (hc : X.calm = true) (hi : JI X G W tg iter wi mi) (hg : JG X G W tg g mg) (hb : JSs X G W body tb mb)
    (hs : ∀ x, foldedSetIterable iter X.env x = pure x := by intro _; rfl) : JS X G W (.For tg iter body [] pos) (tFor wi g tb) (mFor mi mg mb) := by
  refine ⟨fun tk po => ps_for po hc (hi.pe tk) (hg.pe tk) (hb.pe tk po) hs, fun σ H μ l s hl hs D q => ?_⟩
  have z := hi.sim σ H μ l s hl hs
  unfold mFor at q
  cases e : mi l s with
  | stuck => rw [e] at q; exact q.elim
  | ex c s1 => rw [e] at z q; exact z _ fun C d H' μ' g r hc hf => q C d σ H' μ' g (hl.mono g) r hc hf
  | ok ds s1 =>
    rw [e] at z q
    refine z _ fun J H1 μ1 g1 r1 ri => ?_
    refine ⟨fun i m σ' H' => ∃ (μ' : Mu) (l' : Loc) (s' : Sto), Grow H1 μ1 H' μ' ∧ RL G G.K H' μ' σ' l' ∧ RS G G.K H' μ' s' ∧ i + m = ds.length ∧ Post G G.K D W H' μ' (forL mg mb (ds.drop i) l' s'), ⟨ds.length, μ1, l, s1, Grow.refl, hl.mono g1, r1, by omega, Post.up g1 q⟩, fun i m σ' H' hW => ?_⟩
    obtain ⟨μ', l', s', g', rl', rs', him, hp⟩ := hW
    obtain ⟨rgo, rstop⟩ := ri H' μ' g'.mono s' rs' i
    by_cases hi2 : ds.length ≤ i
    · left
      rw [List.drop_of_length_le hi2] at hp
      exact ⟨rstop hi2, hp σ' H' μ' Grow.refl rl' rs'⟩
    · right
      have hlt : i < ds.length := by omega
      rw [List.drop_eq_getElem_cons hlt] at hp
      have hgo := rgo ds[i] (List.getElem?_eq_getElem hlt)
      refine ⟨hgo.1, fun σ5 H5 => ∃ (μ' : Mu) (l' : Loc) (s' : Sto), Grow H1 μ1 H5 μ' ∧ RL G G.K H5 μ' σ5 l' ∧ RS G G.K H5 μ' s' ∧ Post G G.K D W H5 μ' (forL mg mb (ds.drop (i + 1)) l' s'), fun σ5 H5 h5 => ?_, fun x H'' hy => ?_⟩
      · obtain ⟨a, b, c, f1, f2, f3, f4⟩ := h5
        exact ⟨m - 1, by omega, a, b, c, f1, f2, f3, by omega, f4⟩
      · obtain ⟨gy, ry, py⟩ := hgo.2 x H'' hy
        have zg := hg.sim σ' H'' μ' l' s' x ds[i] (rl'.mono gy) ry py
        simp only [forL] at hp
        cases e2 : mg ds[i] l' s' with
        | stuck => rw [e2] at hp; exact hp.elim
        | ex c s2 =>
          rw [e2] at zg hp
          exact zg _ fun C d H2 μ2 g2 r2 hc hf => hp C d σ' H2 μ2 (gy.trans g2) ((rl'.mono gy).mono g2) r2 hc hf
        | ok l2 s2 =>
          rw [e2] at zg hp
          refine zg _ fun σ2 H2 μ2 g2 r2 rl2 => ?_
          have gg : Grow H' μ' H2 μ2 := gy.trans g2
          refine hb.sim σ2 H2 μ2 l2 s2 rl2 r2 _ ?_
          dsimp only at hp
          cases e3 : mb l2 s2 with
          | nx l3 s3 =>
            rw [e3] at hp
            exact fun σ3 H3 μ3 g3 rl3 r3 => ⟨μ3, l3, s3, (g'.trans gg).trans g3, rl3, r3, Post.up (gg.trans g3) hp⟩
          | ct l3 s3 =>
            rw [e3] at hp
            exact fun σ3 H3 μ3 g3 rl3 r3 => ⟨μ3, l3, s3, (g'.trans gg).trans g3, rl3, r3, Post.up (gg.trans g3) hp⟩
          | bk l3 s3 =>
            rw [e3] at hp
            exact fun σ3 H3 μ3 g3 rl3 r3 => hp σ3 H3 μ3 (gg.trans g3) rl3 r3
          | rt d s3 =>
            rw [e3] at hp
            exact fun v H3 μ3 g3 r3 p3 => hp v H3 μ3 (gg.trans g3) r3 p3
          | ex c l3 s3 =>
            rw [e3] at hp
            exact fun C d σ3 H3 μ3 g3 rl3 r3 hc hf => hp C d σ3 H3 μ3 (gg.trans g3) rl3 r3 hc hf
          | stuck => rw [e3] at hp; exact hp.elim

/-- n turns at most -/
def whileN (mc : MT) (mb : MS) : Nat → Loc → Sto → Option Out
  | 0, _, _ => none
  | n + 1, l, s => match mc l s with
    | .ok true s1 => match mb l s1 with
      | .nx l2 s2 => whileN mc mb n l2 s2
      | .ct l2 s2 => whileN mc mb n l2 s2
      | .bk l2 s2 => some (.nx l2 s2)
      | .rt d s2 => some (.rt d s2)
      | .ex c l2 s2 => some (.ex c l2 s2)
      | .stuck => some .stuck
    | .ok false s1 => some (.nx l s1)
    | .ex c s1 => some (.ex c l s1)
    | .stuck => some .stuck
theorem whileN_mono {mc : MT} {mb : MS} : ∀ {n m : Nat} {l : Loc} {s : Sto} {o : Out}, whileN mc mb n l s = some o → n ≤ m → whileN mc mb m l s = some o
  | 0, _, _, _, _, h, _ => by cases h
  | n + 1, 0, _, _, _, _, h => absurd h (by omega)
  | n + 1, m + 1, l, s, o, h, hm => by
    unfold whileN at h ⊢
    cases e : mc l s with
    | ok b s1 =>
      cases b with
      | true =>
        simp only [e] at h ⊢
        cases e2 : mb l s1 with
        | nx l2 s2 => simp only [e2] at h ⊢; exact whileN_mono h (by omega)
        | ct l2 s2 => simp only [e2] at h ⊢; exact whileN_mono h (by omega)
        | bk l2 s2 => simp only [e2] at h ⊢; exact h
        | rt l2 s2 => simp only [e2] at h ⊢; exact h
        | ex c l2 s2 => simp only [e2] at h ⊢; exact h
        | stuck => simp only [e2] at h ⊢; exact h
      | false => simp only [e] at h ⊢; exact h
    | ex c s1 => simp only [e] at h ⊢; exact h
    | stuck => simp only [e] at h ⊢; exact h
open Classical in
noncomputable def mWhile (mc : MT) (mb : MS) : MS := fun l s => if h : ∃ n o, whileN mc mb n l s = some o then h.choose_spec.choose else .stuck
theorem mWhile_of {mc : MT} {mb : MS} {n : Nat} {l : Loc} {s : Sto} {o : Out} (h : whileN mc mb n l s = some o) : mWhile mc mb l s = o := by
  have hh : ∃ n o, whileN mc mb n l s = some o := ⟨n, o, h⟩
  unfold mWhile
  rw [dif_pos hh]
  have h2 := hh.choose_spec.choose_spec
  have h3 := whileN_mono h2 (Nat.le_max_left _ n)
  have h4 := whileN_mono h (Nat.le_max_right hh.choose n)
  rw [h3] at h4
  exact Option.some.inj h4
theorem mWhile_some {mc : MT} {mb : MS} {l : Loc} {s : Sto} (h : mWhile mc mb l s ≠ .stuck) : ∃ n, whileN mc mb n l s = some (mWhile mc mb l s) := by
  by_cases hh : ∃ n o, whileN mc mb n l s = some o
  · obtain ⟨n, o, e⟩ := hh
    exact ⟨n, by rw [e, mWhile_of e]⟩
  · exfalso
    apply h
    unfold mWhile
    rw [dif_neg hh]
/-- one turn -/
theorem mWhile_eq {mc : MT} {mb : MS} {l : Loc} {s : Sto} : mWhile mc mb l s = match mc l s with
    | .ok true s1 => (match mb l s1 with
      | .nx l2 s2 => mWhile mc mb l2 s2
      | .ct l2 s2 => mWhile mc mb l2 s2
      | .bk l2 s2 => .nx l2 s2
      | .rt d s2 => .rt d s2
      | .ex c l2 s2 => .ex c l2 s2
      | .stuck => .stuck)
    | .ok false s1 => .nx l s1
    | .ex c s1 => .ex c l s1
    | .stuck => .stuck := by
  have key : ∀ l2 s2, mWhile mc mb l2 s2 = .stuck ∨ ∃ n, whileN mc mb n l2 s2 = some (mWhile mc mb l2 s2) := fun l2 s2 => by
    by_cases hh : mWhile mc mb l2 s2 = .stuck
    · exact .inl hh
    · exact .inr (mWhile_some hh)
  have dead : ∀ l2 s2, (∀ n, whileN mc mb (n + 1) l s = whileN mc mb n l2 s2) → mWhile mc mb l s = mWhile mc mb l2 s2 := fun l2 s2 hn => by
    by_cases hh : ∃ n o, whileN mc mb n l2 s2 = some o
    · obtain ⟨n, o, e⟩ := hh
      rw [mWhile_of e, mWhile_of (n := n + 1) (by rw [hn]; exact e)]
    · have h1 : mWhile mc mb l2 s2 = .stuck := by unfold mWhile; rw [dif_neg hh]
      have h2 : ¬ ∃ n o, whileN mc mb n l s = some o := fun ⟨n, o, e⟩ => by
        cases n with
        | zero => cases e
        | succ n => exact hh ⟨n, o, by rw [← hn]; exact e⟩
      rw [h1]
      unfold mWhile
      rw [dif_neg h2]
  cases e : mc l s with
  | ok b s1 =>
    cases b with
    | true =>
      dsimp only
      cases e2 : mb l s1 with
      | nx l2 s2 => exact dead l2 s2 fun n => by simp only [whileN, e, e2]
      | ct l2 s2 => exact dead l2 s2 fun n => by simp only [whileN, e, e2]
      | bk l2 s2 => exact mWhile_of (n := 1) (by simp only [whileN, e, e2])
      | rt l2 s2 => exact mWhile_of (n := 1) (by simp only [whileN, e, e2])
      | ex c l2 s2 => exact mWhile_of (n := 1) (by simp only [whileN, e, e2])
      | stuck => exact mWhile_of (n := 1) (by simp only [whileN, e, e2])
    | false => exact mWhile_of (n := 1) (by simp only [whileN, e])
  | ex c s1 => exact mWhile_of (n := 1) (by simp only [whileN, e])
  | stuck => exact mWhile_of (n := 1) (by simp only [whileN, e])
theorem js_while {c : Expr} {body : List Stmt} {tc : TT} {tb : TS} {mc : MT} {mb : MS} {pos : Pos} (hc : JT X G W c tc mc) (hb : JSs X G W body tb mb) : JS X G W (.While c body [] pos) (tWhile tc tb) (mWhile mc mb) := by
  refine ⟨fun tk po => ps_while po (hc.pe tk) (hb.pe tk po), fun σ H μ l s hl hs D q => ?_⟩
  have hq : mWhile mc mb l s ≠ .stuck := fun z => by rw [z] at q; exact q.elim
  obtain ⟨n, hn⟩ := mWhile_some hq
  refine ⟨fun m σ' H' => ∃ (μ' : Mu) (l' : Loc) (s' : Sto) (o : Out), Grow H μ H' μ' ∧ RL G G.K H' μ' σ' l' ∧ RS G G.K H' μ' s' ∧ whileN mc mb m l' s' = some o ∧ Post G G.K D W H' μ' o, ⟨n, μ, l, s, _, Grow.refl, hl, hs, hn, q⟩, fun m σ' H' hW => ?_⟩
  obtain ⟨μ', l', s', o, g', rl', rs', hw, hp⟩ := hW
  cases m with
  | zero => cases hw
  | succ m =>
    have z := hc.sim σ' H' μ' l' s' rl' rs'
    simp only [whileN] at hw
    cases e : mc l' s' with
    | stuck => simp only [e, Option.some.injEq] at hw; subst hw; exact hp.elim
    | ex c s1 =>
      simp only [e, Option.some.injEq] at hw
      subst hw
      rw [e] at z
      exact z _ fun C d H2 μ2 g2 r2 hc hf => hp C d σ' H2 μ2 g2 (rl'.mono g2) r2 hc hf
    | ok b s1 =>
      rw [e] at z
      refine z _ fun b' H2 μ2 g2 r2 hb' => ?_
      subst hb'
      cases b' with
      | false =>
        rw [if_neg Bool.false_ne_true]
        simp only [e, Option.some.injEq] at hw
        subst hw
        exact hp σ' H2 μ2 g2 (rl'.mono g2) r2
      | true =>
        rw [if_pos rfl]
        simp only [e] at hw
        refine ⟨fun σ5 H5 => ∃ (μ' : Mu) (l' : Loc) (s' : Sto) (o : Out), Grow H μ H5 μ' ∧ RL G G.K H5 μ' σ5 l' ∧ RS G G.K H5 μ' s' ∧ whileN mc mb m l' s' = some o ∧ Post G G.K D W H5 μ' o, fun σ5 H5 h5 => ⟨m, by omega, h5⟩, ?_⟩
        refine hb.sim σ' H2 μ2 l' s1 (rl'.mono g2) r2 _ ?_
        cases e3 : mb l' s1 with
        | nx l3 s3 =>
          simp only [e3] at hw
          exact fun σ3 H3 μ3 g3 rl3 r3 => ⟨μ3, l3, s3, o, (g'.trans g2).trans g3, rl3, r3, hw, Post.up (g2.trans g3) hp⟩
        | ct l3 s3 =>
          simp only [e3] at hw
          exact fun σ3 H3 μ3 g3 rl3 r3 => ⟨μ3, l3, s3, o, (g'.trans g2).trans g3, rl3, r3, hw, Post.up (g2.trans g3) hp⟩
        | bk l3 s3 =>
          simp only [e3, Option.some.injEq] at hw
          subst hw
          exact fun σ3 H3 μ3 g3 rl3 r3 => hp σ3 H3 μ3 (g2.trans g3) rl3 r3
        | rt d s3 =>
          simp only [e3, Option.some.injEq] at hw
          subst hw
          exact fun v H3 μ3 g3 r3 p3 => hp v H3 μ3 (g2.trans g3) r3 p3
        | ex c l3 s3 =>
          simp only [e3, Option.some.injEq] at hw
          subst hw
          exact fun C d σ3 H3 μ3 g3 rl3 r3 hc hf => hp C d σ3 H3 μ3 (g2.trans g3) rl3 r3 hc hf
        | stuck => simp only [e3, Option.some.injEq] at hw; subst hw; exact hp.elim
end
end DL


namespace DL
open PySem PySem.Spec PyProof.Rows L2
section
variable {X : Cx} {G : Gm} {K : PySem.W.Frag} {H : Hp} {μ : Mu} {s : Sto} {W : WX} {k : Nat}

/-! ### raise -/
theorem pmk_own0 {C : Addr} {bmB : List Value} {B newId initId : String} {x : Str} {p pos : Pos} (F : ExcBaseFacts B newId initId bmB) (q : PySem.W.excIn X.K C bmB newId = true) (gC : X.mg x = some (.ref C)) (kC : PySem.W.keepIn X.K (.ref C) = true) (r : Raises X (.ref C)) (hg : Gl X x)
    (hdb : (x == ("__debug__" : Str)) = false := by decide) : PMk X (.Call (.Name x p) [] [] pos) (fun _ H Q => Q (.ref C) none H) := by
  intro pins s σ H Q I h
  refine wpAny_Call_Name_kw (ld_glob I hg gC ?_ hdb)
  refine PySem.W.callWith_K0 I.kIn kC ?_
  show wpAny _ _ (call (.ref C) []) _ _ _
  obtain ⟨bm, N, nm, qn, bs, hdct, sn, sub, ab, col, dd, k0, k1, k2, k3, k5, mN, hC, hN, hni, T⟩ := exc_obj I.kIn q
  refine wpAny_call_exc_subT F T hC hN hni (fun h' e hm => ?_) (by show 0 ≤ sizeLine; exact Nat.zero_le _)
  exact mk_of I hm r h (I.hok.gone hm.new)
abbrev veL : List Value := [.type "ValueError", .type "Exception", .type "BaseException", .type "object"]
/-- an exception class of the program's own, under ValueError, without __init__ -/
structure ClD (K : PySem.W.Frag) (mg : Str → Option Value) (G : Gm) (x : String) : Prop where
  ex : ∃ C : Addr, G.cl x = some C ∧ mg x = some (.ref C) ∧ PySem.W.excIn K C veL "ValueError.__new__" = true ∧ PySem.W.keepIn K (.ref C) = true ∧ PySem.W.subIn K (.ref C) (.type "BaseException") = some true ∧ PySem.W.typeIn K (.ref C) = some (.type "type")
def mRaise (x : String) : MS := fun l s => .ex ⟨x, none⟩ l s
theorem Gm.cA_eq {x : String} {C : Addr} (h : G.cl x = some C) : G.cA x = C := by unfold Gm.cA; rw [h]; rfl
theorem js_raise {x : String} {p pos pos' : Pos} (F : ClD X.K X.mg G x) (hc : X.calm = true) (hg : Gl X (x : Str) := by rfl) (hdb : ((x : Str) == ("__debug__" : Str)) = false := by decide) :
    JS X G W (.Raise (some (.Call (.Name x p) [] [] pos)) none pos') (fun _ σ H => W (.ref (G.cA x)) none σ H) (mRaise x) := by
  obtain ⟨C', h1, h2, h3, h4, h5, h6⟩ := F.ex
  rw [Gm.cA_eq h1]
  refine ⟨fun tk _ => ps_raise hc tk (pmk_own0 PySem.F.excBase_ValueError h3 h2 h4 (raises_own h5 h6) hg hdb), fun σ H μ l s hl hs D q => ?_⟩
  exact q _ none σ H μ Grow.refl hl hs h1 rfl

/-! ### try -/
def noExO : Out → Out
  | .ex _ _ _ => .stuck
  | o => o
def mTry (mb : MS) (hs : List (String × MS)) : MS := fun l s => match mb l s with
  | .ex c l1 s1 => match hs.lookup c.cls with
    | some ms => noExO (ms l1 s1)
    | none => .ex c l1 s1
  | o => o
/-- what the classes are among each other -/
def ExM (K : PySem.W.Frag) (G : Gm) : Prop := ∀ (a b : String) (Ca Cb : Addr), G.cl a = some Ca → G.cl b = some Cb → PySem.W.exmOne K (.ref Ca) (.ref Cb) = some (a == b)
inductive HsOk (X : Cx) (G : Gm) : List ExceptHandler → List (Value × (Addr → Value → Option Addr → TS)) → List (String × MS) → Prop
  | nil : HsOk X G [] [] []
  | cons {x : String} {ts : TS} {ms : MS} {b₀ : Stmt} {suite : List Stmt} {np pos' : Pos} {hds : List ExceptHandler} {l : List (Value × (Addr → Value → Option Addr → TS))} {hs : List (String × MS)} (F : ClD X.K X.mg G x) (hg : Gl X (x : Str)) (hdb : ((x : Str) == ("__debug__" : Str)) = false)
      (hsu : ∀ (a : Addr) (oe : Obj) (pn : List (Addr × Obj)), JSs (X.suite a ((a, oe) :: pn)) G W0 (b₀ :: suite) ts ms) (r : HsOk X G hds l hs) :
      HsOk X G (.ExceptHandler (some (.Name x np)) none (b₀ :: suite) pos' :: hds) ((.ref (G.cA x), fun _ _ _ => ts) :: l) ((x, ms) :: hs)
theorem HsOk.pe {hds : List ExceptHandler} {l : List (Value × (Addr → Value → Option Addr → TS))} {hs : List (String × MS)} (h : HsOk X G hds l hs) : HdsOk X hds l := by
  induction h with
  | nil => exact .nil
  | cons F hg hdb hsu r ih =>
    obtain ⟨C', h1, h2, h3, h4, h5, h6⟩ := F.ex
    rw [Gm.cA_eq h1]
    exact .cons ⟨hg, hdb, .inl h2⟩ (fun a oe cls d pn _ _ => (hsu a oe pn).pe takes0 PassesOwn.never) ih
theorem post_noEx {D : Ends} {W W' : WX} {o : Out} (h : Post G K D W H μ (noExO o)) : Post G K D W' H μ o := by
  cases o with
  | ex _ _ _ => exact h.elim
  | nx _ _ => exact h
  | rt _ _ => exact h
  | bk _ _ => exact h
  | ct _ _ => exact h
  | stuck => exact h
theorem HsOk.sim (em : ExM X.K G) {hds : List ExceptHandler} {l : List (Value × (Addr → Value → Option Addr → TS))} {hs : List (String × MS)} (h : HsOk X G hds l hs) {D : Ends} {W : WX} {c : Xn} {C : Addr} {d : Option Addr} {σ : L2.St} {lo : Loc} {s : Sto} (hc : G.cl c.cls = some C) (hl : RL G G.K H μ σ lo) (hr : RS G G.K H μ s) (hf : Fld G G.K H μ c d)
    (q : Post G G.K D W H μ (match hs.lookup c.cls with | some ms => noExO (ms lo s) | none => .ex c lo s)) : wMany X.K W D l (.ref C) d σ H := by
  induction h with
  | nil => exact q C d σ H μ Grow.refl hl hr hc hf
  | @cons x ts ms b₀ suite np pos' hds l hs F hg hdb hsu r ih =>
    obtain ⟨C', h1, h2, h3, h4, h5, h6⟩ := F.ex
    rw [Gm.cA_eq h1]
    refine ⟨_, em c.cls x C C' hc h1, fun hb a ha => ?_, fun hb => ih ?_⟩
    · rw [List.lookup_cons, hb] at q
      exact (hsu X.env.locals default []).sim σ H μ lo s hl hr D (post_noEx q)
    · rw [List.lookup_cons, hb] at q
      exact q
theorem js_try {body : List Stmt} {h₀ : ExceptHandler} {hds : List ExceptHandler} {l : List (Value × (Addr → Value → Option Addr → TS))} {hs : List (String × MS)} {pos : Pos} {tb : WX → TS} {mb : MS} (em : ExM X.K G) (hst : X.stack = X.env :: X.outer) (hfr : X.env.frame = some X.env.locals)
    (hb : ∀ (W : WX) (pn : List (Addr × Obj)) (xe : Value → Shared → Prop), JSs (X.tr pn xe) G W body (tb W) mb) (hh : HsOk X G (h₀ :: hds) l hs) : JS X G W (.Try body (h₀ :: hds) [] [] pos) (fun D σ H => tb (wMany X.K W D l) D σ H) (mTry mb hs) := by
  refine ⟨fun tk _ => ps_try_many hst hfr tk (fun W pn xe tk po => (hb W pn xe).pe tk po) hh.pe, fun σ H μ lo s hl hr D q => ?_⟩
  refine (hb (wMany X.K W D l) [] (fun _ _ => True)).sim σ H μ lo s hl hr D ?_
  unfold mTry at q
  cases e : mb lo s with
  | nx l1 s1 => rw [e] at q; exact q
  | rt d s1 => rw [e] at q; exact q
  | bk l1 s1 => rw [e] at q; exact q
  | ct l1 s1 => rw [e] at q; exact q
  | stuck => rw [e] at q; exact q
  | ex c l1 s1 =>
    rw [e] at q
    exact fun C d σ' H' μ' g rl rs hc hf => hh.sim em hc rl rs hf (Post.up g q)
end

/-! ### what a def hands back -/
def frzA (f : D → Option D) : List D → Option (List D)
  | [] => some []
  | x :: xs => match f x, frzA f xs with
    | some y, some ys => some (y :: ys)
    | _, _ => none
/-- the tracked objects from n on become frozen ones -/
def frz (s : Sto) (n : Nat) : Nat → D → Option D
  | 0, _ => none
  | k + 1, .tup xs => (frzA (frz s n k) xs).map .tup
  | k + 1, .lst xs => (frzA (frz s n k) xs).map .lst
  | _ + 1, .scr _ => none
  | k + 1, .ref m => if m < n then some (.ref m) else match s[m]? with
    | some (.lst xs) => (frzA (frz s n k) xs).map .lst
    | _ => none
  | _ + 1, d => some d
mutual
def clD (n : Nat) : D → Bool
  | .ref m => decide (m < n)
  | .tup xs => clA n xs
  | .lst xs => clA n xs
  | _ => true
def clA (n : Nat) : List D → Bool
  | [] => true
  | x :: xs => clD n x && clA n xs
end
def clO (n : Nat) : O → Bool
  | .lst xs => clA n xs
  | .dK kvs => clA n (kvs.map (·.2))
  | .dT kvs => clA n (kvs.map (·.2))
/-- back to n tracked objects -/
def backF (n : Nat) : R D → R D
  | .ok d s => if s.length = n then .ok d s else match frz s n 12 d with
    | some d' => if (s.take n).all (clO n) = true then .ok d' (s.take n) else .stuck
    | none => .stuck
  | .ex c s => if s.length = n then .ex c s else if (s.take n).all (clO n) = true ∧ c.fld.isNone = true then .ex c (s.take n) else .stuck
  | .stuck => .stuck
/-- the tracked objects stay -/
def backT (_ : Nat) (r : R D) : R D := r
section
variable {G : Gm} {K : PySem.W.Frag} {H H' : Hp} {μ μ' : Mu} {s : Sto}
abbrev Mu.cut (μ : Mu) (n : Nat) : Mu := ⟨μ.tr.take n, μ.rs⟩
theorem cut_sub {n : Nat} {a : Addr} (h : a ∈ μ.cut n) : a ∈ μ := by
  rcases h with h | h
  · exact .inl (List.mem_of_mem_take h)
  · exact .inr h
theorem cut_get {n m : Nat} (h : m < n) : (μ.cut n).tr[m]? = μ.tr[m]? := List.getElem?_take_of_lt h
mutual
theorem Rp.cut {n : Nat} : ∀ {v : V} {d : D}, Rp G K H μ v d → clD n d = true → Rp G K H (μ.cut n) v d
  | _, _, .non, _ => .non
  | _, _, .bl b, _ => .bl b
  | _, _, .int i, _ => .int i
  | _, _, .str x, _ => .str x
  | _, _, .tup h nn r, c => .tup h (fun z => nn (cut_sub z)) (RpA.cutA r (by simpa [clD] using c))
  | _, _, .tupK a b c e f r, cc => .tupK a b c e f (RpA.cutA r (by simpa [clD] using cc))
  | _, _, .lst h nn r, c => .lst h (fun z => nn (cut_sub z)) (RpA.cutA r (by simpa [clD] using c))
  | _, _, .scr h nn, _ => .scr h (fun z => nn (cut_sub z))
  | _, _, .scrK a b c d e f, _ => .scrK a b c d e f
  | _, _, .ref h, c => .ref (by rw [cut_get (by simpa [clD] using c)]; exact h)
  | _, _, .fn h, _ => .fn h
theorem RpA.cutA {n : Nat} : ∀ {vs : List V} {ds : List D}, RpA G K H μ vs ds → clA n ds = true → RpA G K H (μ.cut n) vs ds
  | _, _, .nil, _ => .nil
  | _, _, .cons a r, c => by
    simp only [clA, Bool.and_eq_true] at c
    exact .cons (Rp.cut a c.1) (RpA.cutA r c.2)
end
theorem KVp.cut {κ : Type} {n : Nat} : ∀ {vs : List (κ × V)} {ds : List (κ × D)}, KVp G K H μ vs ds → clA n (ds.map (·.2)) = true → KVp G K H (μ.cut n) vs ds
  | _, _, .nil, _ => .nil
  | _, _, .cons a r, c => by
    simp only [List.map_cons, clA, Bool.and_eq_true] at c
    exact .cons (a.cut c.1) (KVp.cut r c.2)
theorem RS.cut {n : Nat} (r : RS G K H μ s) (h : (s.take n).all (clO n) = true) : RS G K H (μ.cut n) (s.take n) := by
  refine ⟨by show (μ.tr.take n).length = _; rw [List.length_take, List.length_take, r.len], (List.take_sublist n μ.tr).nodup r.nd, fun m p o e1 e2 => ?_, fun a ha => ⟨(r.rk a ha).1, fun z => (r.rk a ha).2 (List.mem_of_mem_take z)⟩⟩
  have hm : m < n := by
    have := (List.getElem?_eq_some_iff.mp e1).1
    rw [List.length_take] at this
    omega
  rw [cut_get hm] at e1
  have hc : clO n o = true := List.all_eq_true.mp h o (List.mem_iff_getElem?.mpr ⟨m, e2⟩)
  rw [List.getElem?_take_of_lt hm] at e2
  have q := r.at_ m p o e1 e2
  cases o with
  | lst ds => obtain ⟨vs, a, b⟩ := q; exact ⟨vs, a, b.cutA hc⟩
  | dK ds => obtain ⟨vs, a, b⟩ := q; exact ⟨vs, a, b.cut hc⟩
  | dT ds => obtain ⟨vs, a, b⟩ := q; exact ⟨vs, a, b.cut hc⟩
theorem frzA_ok {f : D → Option D} {μ2 : Mu} (hf : ∀ {v : V} {d d' : D}, Rp G K H μ v d → f d = some d' → Rp G K H μ2 v d') : ∀ {vs : List V} {ds ds' : List D}, RpA G K H μ vs ds → frzA f ds = some ds' → RpA G K H μ2 vs ds'
  | _, _, _, .nil, h => by simp only [frzA, Option.some.injEq] at h; subst h; exact .nil
  | _, _, _, .cons (d := d) (ds := ds) a r, h => by
    simp only [frzA] at h
    cases e1 : f d with
    | none => rw [e1] at h; cases h
    | some y =>
      cases e2 : frzA f ds with
      | none => rw [e1, e2] at h; cases h
      | some ys =>
        rw [e1, e2] at h
        cases h
        exact .cons (hf a e1) (frzA_ok hf r e2)
theorem frz_ok {n : Nat} (r : RS G K H μ s) : ∀ {k : Nat} {v : V} {d d' : D}, Rp G K H μ v d → frz s n k d = some d' → Rp G K H (μ.cut n) v d'
  | 0, _, _, _, _, h => by cases h
  | k + 1, v, d, d', p, h => by
    cases p with
    | non => simp only [frz, Option.some.injEq] at h; subst h; exact .non
    | bl b => simp only [frz, Option.some.injEq] at h; subst h; exact .bl b
    | int b => simp only [frz, Option.some.injEq] at h; subst h; exact .int b
    | str b => simp only [frz, Option.some.injEq] at h; subst h; exact .str b
    | fn b => simp only [frz, Option.some.injEq] at h; subst h; exact .fn b
    | scr _ _ => simp [frz] at h
    | scrK _ _ _ _ _ _ => simp [frz] at h
    | tup h1 h2 h3 =>
      simp only [frz, Option.map_eq_some_iff] at h
      obtain ⟨ys, h, rfl⟩ := h
      exact .tup h1 (fun z => h2 (cut_sub z)) (frzA_ok (fun a b => frz_ok r a b) h3 h)
    | tupK a b c e f h3 =>
      simp only [frz, Option.map_eq_some_iff] at h
      obtain ⟨ys, h, rfl⟩ := h
      exact .tupK a b c e f (frzA_ok (fun a b => frz_ok r a b) h3 h)
    | lst h1 h2 h3 =>
      simp only [frz, Option.map_eq_some_iff] at h
      obtain ⟨ys, h, rfl⟩ := h
      exact .lst h1 (fun z => h2 (cut_sub z)) (frzA_ok (fun a b => frz_ok r a b) h3 h)
    | @ref m a ha =>
      simp only [frz] at h
      split at h
      · rename_i hm
        cases h
        exact .ref (by rw [cut_get hm]; exact ha)
      · rename_i hm
        cases e : s[m]? with
        | none => simp only [e] at h; cases h
        | some o =>
          cases o with
          | lst xs =>
            simp only [e, Option.map_eq_some_iff] at h
            obtain ⟨ys, h, rfl⟩ := h
            obtain ⟨vs, q1, q2⟩ := r.at_ m a _ ha e
            refine .lst q1 (fun z => ?_) (frzA_ok (fun a b => frz_ok r a b) q2 h)
            have hmem : a ∈ μ.tr := List.mem_iff_getElem?.mpr ⟨m, ha⟩
            rcases z with z | z
            · obtain ⟨j, hj⟩ := List.mem_iff_getElem?.mp z
              have hjn : j < n := by
                have := (List.getElem?_eq_some_iff.mp hj).1
                rw [List.length_take] at this
                omega
              rw [List.getElem?_take_of_lt hjn] at hj
              have := (List.getElem?_inj (List.getElem?_eq_some_iff.mp ha).1 r.nd).mp (ha.trans hj.symm)
              omega
            · exact (r.rk a z).2 hmem
          | dK _ => simp only [e] at h; cases h
          | dT _ => simp only [e] at h; cases h
theorem Grow.cut {n : Nat} (g : Grow H μ H' μ') (hn : μ.tr.length = n) : Grow H μ H' (μ'.cut n) := by
  refine ⟨g.keep, fun a ha => g.news a (List.mem_of_mem_take ha), fun m p e => ?_, g.rs, g.res⟩
  have hm : m < n := by rw [← hn]; exact (List.getElem?_eq_some_iff.mp e).1
  rw [cut_get hm]
  exact g.pre m p e
/-- a way to hand back -/
structure BackOk (back : Nat → R D → R D) : Prop where
  ok : ∀ {G : Gm} {K : PySem.W.Frag} {H H' : Hp} {μ μ' : Mu} {n : Nat} {s' s2 : Sto} {v : V} {d d2 : D}, μ.tr.length = n → back n (.ok d s') = .ok d2 s2 → Grow H μ H' μ' → RS G K H' μ' s' → Rp G K H' μ' v d → ∃ μ2, Grow H μ H' μ2 ∧ RS G K H' μ2 s2 ∧ Rp G K H' μ2 v d2
  ex : ∀ {G : Gm} {K : PySem.W.Frag} {H H' : Hp} {μ μ' : Mu} {n : Nat} {s' s2 : Sto} {c c2 : Xn} {dd : Option Addr}, μ.tr.length = n → back n (.ex c s') = .ex c2 s2 → Grow H μ H' μ' → RS G K H' μ' s' → Fld G K H' μ' c dd → c2 = c ∧ ∃ μ2, Grow H μ H' μ2 ∧ RS G K H' μ2 s2 ∧ Fld G K H' μ2 c dd
  okx : ∀ {n d s' c s2}, back n (.ok d s') ≠ .ex c s2
  exo : ∀ {n d s' c s2}, back n (.ex c s') ≠ .ok d s2
  st : ∀ {n}, back n .stuck = .stuck
theorem backT_ok : BackOk backT := by
  refine ⟨fun hn e g r p => ?_, fun hn e g r f => ?_, fun e => ?_, fun e => ?_, rfl⟩
  · cases e; exact ⟨_, g, r, p⟩
  · cases e; exact ⟨rfl, _, g, r, f⟩
  · cases e
  · cases e
theorem backF_ok : BackOk backF := by
  refine ⟨fun {G K H H' μ μ' n s' s2 v d d2} hn e g r p => ?_, fun {G K H H' μ μ' n s' s2 c c2 dd} hn e g r f => ?_, fun {n d s' c s2} e => ?_, fun {n d s' c s2} e => ?_, rfl⟩
  · simp only [backF] at e
    split at e
    · cases e; exact ⟨_, g, r, p⟩
    · cases e1 : frz s' n 12 d with
      | none => rw [e1] at e; cases e
      | some d' =>
        rw [e1] at e
        dsimp only at e
        split at e
        · rename_i hc
          cases e
          exact ⟨_, g.cut hn, r.cut hc, frz_ok r p e1⟩
        · cases e
  · simp only [backF] at e
    split at e
    · cases e; exact ⟨rfl, _, g, r, f⟩
    · split at e
      · rename_i hc
        cases e
        refine ⟨rfl, _, g.cut hn, r.cut hc.1, ?_⟩
        unfold Fld at f ⊢
        cases e2 : c.fld with
        | none => rw [e2] at f; exact f
        | some z => rw [e2] at hc; exact absurd hc.2 (by simp)
      · cases e
  · simp only [backF] at e
    split at e
    · cases e
    · cases e1 : frz s' n 12 d with
      | none => rw [e1] at e; cases e
      | some d' =>
        rw [e1] at e
        dsimp only at e
        split at e <;> cases e
  · simp only [backF] at e
    split at e
    · cases e
    · split at e <;> cases e
def outR : Out → R D
  | .nx _ s => .ok .non s
  | .rt d s => .ok d s
  | .ex c _ s => .ex c s
  | _ => .stuck
/-- a def as a function of data: np parameters, nn names -/
def mDef (back : Nat → R D → R D) (np nn : Nat) (m : MS) : MF := fun ds s => if ds.length = np then back s.length (outR (m (ds.map some ++ List.replicate (nn - np) none) s)) else .stuck
theorem start_rel {N : List Str} : ∀ {vs : List V} {ds : List D}, RpA G K H μ vs ds → RL G K H μ (L2.start N vs) (ds.map some ++ List.replicate (N.length - ds.length) none) := by
  intro vs ds p
  unfold L2.start
  refine ⟨by simp [p.length], fun i d e => ?_⟩
  by_cases hi : i < ds.length
  · rw [List.getElem?_append_left (by simpa using hi), List.getElem?_map] at e
    cases e1 : ds[i]? with
    | none => rw [e1] at e; cases e
    | some d' =>
      rw [e1] at e
      cases e
      obtain ⟨v, h1, h2⟩ := p.get e1
      refine ⟨v, ?_, h2⟩
      rw [List.getElem?_append_left (by rw [List.length_map, p.length]; exact hi), List.getElem?_map, h1]
      rfl
  · rw [List.getElem?_append_right (by simpa using hi), List.getElem?_replicate] at e
    split at e <;> cases e
/-- THE RULE for a def -/
theorem def_fn (hKG : K = G.K) {P : Program} {w : World} {mg : Str → Option Value} {base : Heap} {back : Nat → R D → R D} (hback : BackOk back) {x : String} {st : Stmt} {f : Addr} {fd : FuncData} {N ps : List Str} {k : Nat} {m : MS}
    (F : Fun K x x st f fd) (S : FnScope N ps (defScope st))
    (body : ∀ (cdv : Value) (A : Around) (outer : List Env) (s : Shared) (H : Hp) (E : XK), Room k (A.deeper (envOfC x (defScope st) s.heap.objs.size f cdv)) → ∀ W : WX, ∃ t, JSs (cxOf (L2.CX P w) P w K mg base N x (defScope st) f cdv A outer s H E) G W (defBody st) t m) :
    FnOk P w K mg base (L2.CX P w) (k + 1) f fd ps (spD G K ps.length (mDef back ps.length N.length m)) := by
  subst hKG
  refine F.okX S (fun vs H Q E h => h.1) (fun cdv A outer s H vs Q E hr h => ?_)
  obtain ⟨hlen, μ, ds, sto, pv, rs, q⟩ := h
  have hd : ds.length = ps.length := by rw [← pv.length]; exact hlen
  let W : WX := fun cls d _ H => E cls d H
  obtain ⟨t, B⟩ := body cdv A outer s H E hr W
  refine ⟨t, B.pe (takes_of rfl rfl rfl rfl) (passes_of rfl), ?_⟩
  have rl := start_rel (N := N) pv
  refine B.sim (L2.start N vs) H μ _ sto rl rs _ ?_
  rw [hd]
  unfold mDef at q
  rw [if_pos hd] at q
  generalize m (ds.map some ++ List.replicate (N.length - ps.length) none) sto = o at q ⊢
  cases o with
  | nx l1 s1 =>
    intro σ' H' μ' g rl' rs'
    show Q .non H'
    simp only [outR] at q
    cases e : back sto.length (.ok .non s1) with
    | ok d2 s2 =>
      rw [e] at q
      obtain ⟨μ2, k1, k2, k3⟩ := hback.ok rs.len e g rs' .non
      exact q _ H' μ2 k1 k2 k3
    | ex c s2 => exact absurd e hback.okx
    | stuck => rw [e] at q; exact q.elim
  | rt d s1 =>
    intro v H' μ' g rs' p
    show Q v H'
    simp only [outR] at q
    cases e : back sto.length (.ok d s1) with
    | ok d2 s2 =>
      rw [e] at q
      obtain ⟨μ2, k1, k2, k3⟩ := hback.ok rs.len e g rs' p
      exact q _ H' μ2 k1 k2 k3
    | ex c s2 => exact absurd e hback.okx
    | stuck => rw [e] at q; exact q.elim
  | bk l1 s1 => simp only [outR, hback.st] at q
  | ct l1 s1 => simp only [outR, hback.st] at q
  | stuck => simp only [outR, hback.st] at q
  | ex c l1 s1 =>
    intro C dd σ' H' μ' g rl' rs' hc hf
    show E (.ref C) dd H'
    simp only [outR] at q
    cases e : back sto.length (.ex c s1) with
    | ok d2 s2 => exact absurd e hback.exo
    | ex c2 s2 =>
      rw [e] at q
      obtain ⟨rfl, μ2, k1, k2, k3⟩ := hback.ex rs.len e g rs' hf
      exact q C dd H' μ2 k1 k2 hc k3
    | stuck => rw [e] at q; exact q.elim
theorem def_ok (hKG : K = G.K) {P : Program} {w : World} {mg : Str → Option Value} {base : Heap} {back : Nat → R D → R D} (hback : BackOk back) {x : String} {st : Stmt} {f : Addr} {fd : FuncData} {N ps : List Str} {k : Nat} {m : MS}
    (F : Fun K x x st f fd) (S : FnScope N ps (defScope st)) (hb : Binds K fd ps []) (hg : mg x = some (.ref f)) (hG : G.fn x = some f)
    (body : ∀ (cdv : Value) (A : Around) (outer : List Env) (s : Shared) (H : Hp) (E : XK), Room k (A.deeper (envOfC x (defScope st) s.heap.objs.size f cdv)) → ∀ W : WX, ∃ t, JSs (cxOf (L2.CX P w) P w K mg base N x (defScope st) f cdv A outer s H E) G W (defBody st) t m) :
    FnD P w K mg base G (k + 1) x ps.length (mDef back ps.length N.length m) := ⟨f, fd, ps, def_fn hKG hback F S body, hg, hG, F.kp, hb⟩
/-- a def of the text -/
structure FnE (K : PySem.W.Frag) (mg : Str → Option Value) (G : Gm) (x : String) (st : Stmt) : Prop where
  ex : ∃ (f : Addr) (fd : FuncData), Fun K x x st f fd ∧ mg x = some (.ref f) ∧ G.fn x = some f
theorem def_e (hKG : K = G.K) {P : Program} {w : World} {mg : Str → Option Value} {base : Heap} {back : Nat → R D → R D} (hback : BackOk back) {x : String} {st : Stmt} {N ps : List Str} {k : Nat} {m : MS}
    (F : FnE K mg G x st) (S : FnScope N ps (defScope st))
    (hbi : ∀ (kV doc pm : Value) (an : Option Addr) (cdv ct : Value) (us : List Value), us.length = ps.length → bindArgs (PySem.W.fnOf x x (defArgs st) (defBody st) (defScope st) .none kV doc pm an cdv ct) ⟨us, []⟩ = pure (ps.zip us))
    (body : ∀ (f : Addr) (cdv : Value) (A : Around) (outer : List Env) (s : Shared) (H : Hp) (E : XK), Room k (A.deeper (envOfC x (defScope st) s.heap.objs.size f cdv)) → ∀ W : WX, ∃ t, JSs (cxOf (L2.CX P w) P w K mg base N x (defScope st) f cdv A outer s H E) G W (defBody st) t m) :
    FnD P w K mg base G (k + 1) x ps.length (mDef back ps.length N.length m) := by
  obtain ⟨f, fd, F1, h1, h2⟩ := F.ex
  exact def_ok hKG hback F1 S (F1.binds hbi) h1 h2 (fun cdv A outer s H E hr W => body f cdv A outer s H E hr W)
/-- the law's def at its script -/
def spAny (K : PySem.W.Frag) : Sp := fun vs H Q _ => ∃ (a : Addr) (ns : List Int), vs = [.ref a] ∧ SqL K H a (ns.map V.int) ∧ Only H ∧ ns.length ≤ 63 ∧ ∀ H', Q (.bl true) H'
theorem law_sp {f : MF} (h : ∀ ns : List Int, ns.length ≤ 63 → f [.scr ns] [] = .ok (.bl true) []) (vs : List V) (H : Hp) (Q : VK) (E : XK) (q : spAny K vs H Q E) : spD G K 1 f vs H Q E := by
  obtain ⟨a, ns, rfl, hS, ho, hl, q⟩ := q
  have p : Rp G K H ⟨[], []⟩ (.ref a) (.scr ns) := by
    rcases hS with (h1 | ⟨o, h1⟩) | ⟨o, its, n, h1, h2, h3, h4, h5, h6⟩
    · rcases ho a with z | ⟨o, xs, z⟩
      · rw [z] at h1; cases h1
      · rw [z] at h1; cases h1
    · exact .scr h1 (fun z => by rcases z with z | z <;> cases z)
    · exact .scrK h1 h2 h3 h4 h5 h6
  refine ⟨rfl, ⟨[], []⟩, [.scr ns], [], .cons p .nil, ⟨rfl, List.nodup_nil, fun n p o e => by simp at e, fun a ha => by cases ha⟩, ?_⟩
  rw [h ns hl]
  intro v H' μ' g r p
  cases p
  exact q _
theorem cx_none {P : Program} {w : World} (H : Hp) (s : Shared) (e : Value) (s' : Shared) (h : L2.CX P w [] H s (fun _ _ _ => False) e s') : False := by
  obtain ⟨_, _, _, _, _, _, _, _, _, _, _, _, z⟩ := h
  exact z
theorem exm_of {K : PySem.W.Frag} {a : Value} {C : Addr} {b : Bool} (hb : PySem.W.subIn K (.ref C) (.type "BaseException") = some true) (hi : PySem.W.isClsIn K C = true) (ht : PySem.W.typeIn K (.ref C) = some (.type "type")) (hs : PySem.W.subIn K a (.ref C) = some b) : PySem.W.exmOne K a (.ref C) = some b := by
  unfold PySem.W.exmOne
  rw [if_pos (by rw [hb]; rfl)]
  unfold PySem.W.kitCls
  have hi2 : (PySem.W.clsIn K C).isSome = true := hi
  dsimp only
  rw [hi2, ht]
  have e : (some (Value.type "type") == some (Value.type "type")) = true := by simp
  rw [e, if_pos (by rfl)]
  exact hs
theorem mem_lk : ∀ {cs : List (String × Addr)} {a : String} {C : Addr}, cs.lookup a = some C → (a, C) ∈ cs
  | [], _, _, h => by simp at h
  | (b, d) :: cs, a, C, h => by
    rw [List.lookup_cons] at h
    split at h
    · rename_i e
      have e := eq_of_beq e
      cases h
      subst e
      exact List.mem_cons_self
    · exact List.mem_cons_of_mem _ (mem_lk h)
theorem exm_mk {K : PySem.W.Frag} {cs : List (String × Addr)} (h : ∀ p ∈ cs, ∀ q ∈ cs, PySem.W.exmOne K (.ref p.2) (.ref q.2) = some (p.1 == q.1)) : ∀ (a b : String) (Ca Cb : Addr), cs.lookup a = some Ca → cs.lookup b = some Cb → PySem.W.exmOne K (.ref Ca) (.ref Cb) = some (a == b) :=
  fun a b Ca Cb ha hb => h (a, Ca) (mem_lk ha) (b, Cb) (mem_lk hb)
end
end DL


namespace DL
open PySem PySem.Spec PyProof.Rows L2

/-! ### in -/
section
variable {X : Cx} {G : Gm} {K : PySem.W.Frag}
theorem room65 {k : Nat} {A : Around} (r : Room k A) : A.units + 65 < cLine := by have := r.un; omega
def rInA (K : PySem.W.Frag) (neg : Bool) : R2 := fun x y H Q => ∃ d ds, Dp K H x d ∧ (Dp K H y (.list ds) ∧ SeqAt.shaped (.list ds) = true ∨ Dp K H y (.tuple ds) ∧ SeqAt.shaped (.tuple ds) = true) ∧ SeqAt.shaped d = true ∧ Q (.bl (if neg then !(ds.any fun z => PyData.eqv z d) else ds.any fun z => PyData.eqv z d)) H
theorem op_inA (hK : X.K = K) (hu : X.A.units + 65 < cLine) : OpR X (compareOp .In) (rInA K false) := by
  subst hK
  intro pins s σ H x y v u Q I rx ry h
  obtain ⟨d, ds, hd, he, sd, q⟩ := h
  obtain ⟨as, r1⟩ := Dp.reads I d x v hd rx
  rcases he with ⟨he, se⟩ | ⟨he, se⟩
  · obtain ⟨bs, r2⟩ := Dp.reads I (.list ds) y u he ry
    exact SeqAt.in_list_reads r2 r1 (SeqAt.canLay_of_shaped se) (SeqAt.canLay_of_shaped sd) (room_in_shaped sd hu) ⟨.bl _, H, I, rfl, q⟩
  · obtain ⟨bs, r2⟩ := Dp.reads I (.tuple ds) y u he ry
    exact SeqAt.in_tuple_reads r2 r1 (SeqAt.canLay_of_shaped se) (SeqAt.canLay_of_shaped sd) (room_in_shaped sd hu) ⟨.bl _, H, I, rfl, q⟩
theorem op_ninA (hK : X.K = K) (hu : X.A.units + 65 < cLine) : OpR X (compareOp .NotIn) (rInA K true) := by
  subst hK
  intro pins s σ H x y v u Q I rx ry h
  obtain ⟨d, ds, hd, he, sd, q⟩ := h
  obtain ⟨as, r1⟩ := Dp.reads I d x v hd rx
  rcases he with ⟨he, se⟩ | ⟨he, se⟩
  · obtain ⟨bs, r2⟩ := Dp.reads I (.list ds) y u he ry
    exact SeqAt.notIn_list_reads r2 r1 (SeqAt.canLay_of_shaped se) (SeqAt.canLay_of_shaped sd) (room_in_shaped sd hu) ⟨.bl _, H, I, rfl, q⟩
  · obtain ⟨bs, r2⟩ := Dp.reads I (.tuple ds) y u he ry
    exact SeqAt.notIn_tuple_reads r2 r1 (SeqAt.canLay_of_shaped se) (SeqAt.canLay_of_shaped sd) (room_in_shaped sd hu) ⟨.bl _, H, I, rfl, q⟩
/-- x in y, y a list or a tuple -/
def memB (s : Sto) (d e : D) : Option Bool := match toPyR s d, toPyR s e with
  | some a, some (.list bs) => if SeqAt.shaped a = true ∧ SeqAt.shaped (.list bs) = true then some (bs.any fun z => PyData.eqv z a) else none
  | some a, some (.tuple bs) => if SeqAt.shaped a = true ∧ SeqAt.shaped (.tuple bs) = true then some (bs.any fun z => PyData.eqv z a) else none
  | _, _ => none
def inD (d e : D) (s : Sto) : R D := match memB s d e with
  | some b => .ok (.bl b) s
  | none => .stuck
def ninD (d e : D) (s : Sto) : R D := match memB s d e with
  | some b => .ok (.bl (!b)) s
  | none => .stuck
theorem s_inG {neg : Bool} : SimR G K (rInA K neg) (fun d e s => match memB s d e with
  | some b => .ok (.bl (if neg then !b else b)) s
  | none => .stuck) := by
  intro H μ s x y d e W r p q
  cases e1 : toPyR s d with
  | none => simp only [memB, e1]; trivial
  | some a =>
    cases e2 : toPyR s e with
    | none => simp only [memB, e1, e2]; trivial
    | some b =>
      cases b with
      | list bs =>
        simp only [memB, e1, e2]
        by_cases h : SeqAt.shaped a = true ∧ SeqAt.shaped (.list bs) = true
        · rw [if_pos h]
          exact now r (.bl _) fun Q z => ⟨a, bs, toPyR_dp r p e1, .inl ⟨toPyR_dp r q e2, h.2⟩, h.1, z⟩
        · rw [if_neg h]; trivial
      | tuple bs =>
        simp only [memB, e1, e2]
        by_cases h : SeqAt.shaped a = true ∧ SeqAt.shaped (.tuple bs) = true
        · rw [if_pos h]
          exact now r (.bl _) fun Q z => ⟨a, bs, toPyR_dp r p e1, .inr ⟨toPyR_dp r q e2, h.2⟩, h.1, z⟩
        · rw [if_neg h]; trivial
      | _ => simp only [memB, e1, e2]; trivial
theorem s_in : SimR G K (rInA K false) inD := s_inG
theorem s_nin : SimR G K (rInA K true) ninD := s_inG
end

/-! ### xs[::-1] -/
section
variable {prog : Program} {w : World} {A : Around} {E : Value → Shared → Prop} {s : Shared}
theorem sliceApplied_rev {sl : Addr} {vl vu vs : Value} {n : Nat} {Q : Int × Int × Nat → Shared → Prop} (hs : s.heap.IsSliceOf sl vl vu vs) (pl : IsPart vl none) (pu : IsPart vu none) (ps : IsPart vs (some (-1)))
    (h : Q ((n : Int) - 1, -1, n) s) : wpAny (model prog w) A (Builtin.Slice.sliceApplied (.ref sl) (pure (n : Int))) Q E s := by
  obtain ⟨os, hos, hcs, hds⟩ := id hs
  unfold Builtin.Slice.sliceApplied Builtin.Slice.sliceFields
  refine wpAny_bind (wpAny_bind (wpAny_field hos hds (x := vl) rfl (wpAny_bind (wpAny_field hos hds (x := vu) rfl (wpAny_bind (wpAny_field hos hds (x := vs) rfl (wpAny_pure ?_)))))))
  refine wpAny_bind (HT.slicePart_ ps ?_)
  show wpAny _ _ (if ((-1 : Int) == 0) = true then _ else _) _ _ s
  rw [if_neg (by decide)]
  refine wpAny_bind (HT.slicePart_ pl (wpAny_bind (HT.slicePart_ pu (wpAny_bind (wpAny_pure ?_)))))
  have hp : Builtin.Slice.slicePlaces ((n : Int) - 1) (-1) (-1) = n := by
    unfold Builtin.Slice.slicePlaces
    have h1 : ¬ ((-1 : Int) > 0) := by omega
    simp only [h1, if_false, Int.neg_neg, Int.ediv_one]
    split <;> omega
  show wpAny _ _ (pure ((n : Int) - 1, (-1 : Int), Builtin.Slice.slicePlaces ((n : Int) - 1) (-1) (-1))) _ _ s
  rw [hp]
  exact wpAny_pure h
theorem fm_self {α : Type} (l : List α) : (List.range l.length).filterMap (fun m => l[m]?) = l := by
  induction l with
  | nil => rfl
  | cons x l ih =>
    rw [List.length_cons, List.range_succ_eq_map, List.filterMap_cons]
    simp only [List.getElem?_cons_zero, List.filterMap_map]
    refine congrArg (x :: ·) ?_
    exact ih
theorem fm_congr {α β : Type} {f g : α → Option β} : ∀ {l : List α}, (∀ a ∈ l, f a = g a) → l.filterMap f = l.filterMap g
  | [], _ => rfl
  | a :: l, h => by
    rw [List.filterMap_cons, List.filterMap_cons, h a (List.mem_cons_self ..), fm_congr fun b hb => h b (List.mem_cons_of_mem _ hb)]
theorem pick_rev (xs : Array Value) : ((List.range xs.size).filterMap fun (m : Nat) => xs[((xs.size : Int) - 1 + (m : Int) * -1).toNat]?).toArray = xs.toList.reverse.toArray := by
  congr 1
  have h := fm_self xs.toList.reverse
  rw [List.length_reverse, Array.length_toList] at h
  rw [← h]
  refine fm_congr fun m hm => ?_
  have hm := List.mem_range.mp hm
  have e : ((xs.size : Int) - 1 + (m : Int) * -1).toNat = xs.size - 1 - m := by omega
  rw [e, List.getElem?_reverse (by rw [Array.length_toList]; exact hm), Array.length_toList, Array.getElem?_toList]
theorem getItem_tuple_rev {t sl : Addr} {items : Array Value} {vl vu vs : Value} {Q : Value → Shared → Prop} (ht : IsTup s.heap t items) (hs : s.heap.IsSliceOf sl vl vu vs) (pl : IsPart vl none) (pu : IsPart vu none) (ps : IsPart vs (some (-1)))
    (h : Q (.ref s.heap.objs.size) { s with heap := s.heap.push { cls := .type "tuple", data := .seq items.toList.reverse.toArray } })
    (hsz : items.size ≤ sizeLine) : wpAny (model prog w) A (getItem (.ref t) (.ref sl)) Q E s := by
  have htake : sizeOk (.seq items.toList.reverse.toArray) := by
    show items.toList.reverse.toArray.size ≤ sizeLine
    rw [List.size_toArray, List.length_reverse, Array.length_toList]
    exact hsz
  obtain ⟨os, hos, hcs, hds⟩ := id hs
  have hTs : s.TypeIs (.ref sl) "slice" := ⟨os, hos, hcs⟩
  unfold getItem
  try with_reducible refine wpAny_holding ?_
  first | refine wpAny_bind (wpAny_pure ?_) | skip
  refine wpAny_bind (wpAny_sequenceKey ht.typeIs (by decide) ?_)
  refine wpAny_bind (wpAny_callSpecial?_slot (name := Str.ofString "__getitem__") ht.typeIs PyProof.Rows.slot_tuple_getitem
    (wpAny_call_entry PyProof.Rows.slot_tuple_getitem ht.typeIs entry_tuple_getitem ?_ (args_tuple_getitem _ _)))
  show wpAny _ _ (Builtin.Tuple.tupleItemsOf (.ref t) >>= _) _ _ s
  refine wpAny_bind (tupleItemsOf_ ht ?_)
  refine wpAny_bind (wpAny_typeOf hTs ?_)
  rw [if_pos (by decide)]
  refine wpAny_bind (sliceApplied_rev hs pl pu ps ?_)
  have hno : ¬ ((((items.size : Int) - 1) == 0 && (-1 : Int) == 1 && items.size == items.size) = true) := by
    intro q
    rw [Bool.and_eq_true, Bool.and_eq_true] at q
    exact absurd q.1.2 (by decide)
  show wpAny _ _ (if (((items.size : Int) - 1) == 0 && (-1 : Int) == 1 && items.size == items.size) = true then _ else _) _ _ s
  rw [if_neg hno, pick_rev]
  first
    | exact wpAny_bind (m := Builtin.Tuple.tupleExact _) (wpAny_newObj_type (wpAny_pure ⟨_, rfl, wpAny_pure h⟩) htake)
    | exact wpAny_bind (m := Builtin.Tuple.tupleExact _) (wpAny_newObj_type (wpAny_bind (wpAny_pure (wpAny_pure ⟨_, rfl, wpAny_pure h⟩))) htake)
    | exact wpAny_bind (wpAny_bind (m := Builtin.Tuple.tupleExact _) (wpAny_newObj_type (wpAny_pure (wpAny_pure ⟨_, rfl, wpAny_pure h⟩)) htake))
    | exact wpAny_bind (wpAny_bind (m := Builtin.Tuple.tupleExact _) (wpAny_newObj_type (wpAny_pure ⟨_, rfl, wpAny_pure h⟩) htake))
end
section
variable {X : Cx} {G : Gm} {W : WX}
def rRevA (K : PySem.W.Frag) : V → Hp → VK → Prop := fun x H1 Q => ∃ a xs, x = .ref a ∧ (SqL K H1 a xs ∧ (∀ p, H1 p = none → Q (.ref p) (L2.upd H1 p (.lst xs.reverse))) ∨ SqT K H1 a xs ∧ (∀ p, H1 p = none → Q (.ref p) (L2.upd H1 p (.tup xs.reverse))))
def tRevA (K : PySem.W.Frag) (te : TE) : TE := fun σ H Q => te σ H fun x H1 => rRevA K x H1 Q
theorem pe_revA {K : PySem.W.Frag} (hK : X.K = K) {e : Expr} {te : TE} {k : Nat} {p1 p2 p3 pos : Pos} (he : PE X e te) : PE X (.Subscript e (.Slice none none (some (.UnaryOp .USub (.Constant (.int 1) k p1) p2)) p3) pos) (tRevA K te) := by
  subst hK
  refine ⟨fun pins s σ H Q I h => ?_⟩
  refine Subscript_ (thn (he.run pins s σ H _ I h) fun v s1 ⟨x, H1, I1, r1, q1⟩ => ?_)
  obtain ⟨a, xs, ex, q1⟩ := q1
  subst ex
  cases r1
  have hst : PO X (some (.UnaryOp .USub (.Constant (.int 1) k p1) p2)) (tPart (tUn (rU fun i => .int (-i)) (tC (.int 1)))) := po_some (pe_un un_neg pe_int)
  refine wpAny_Slice (thn (po_none.run pins s1 σ H1 (fun o H2 => o = none ∧ H2 = H1) I1 ⟨rfl, rfl⟩) fun vl s2 ⟨l, H2, I2, pl, el, e2⟩ => ?_)
  subst el e2
  refine thn (po_none.run pins s2 σ H2 (fun o H3 => o = none ∧ H3 = H2) I2 ⟨rfl, rfl⟩) fun vu s3 ⟨u, H3, I3, pu, eu, e3⟩ => ?_
  subst eu e3
  refine thn (hst.run pins s3 σ H3 (fun o H4 => o = some (-1) ∧ H4 = H3) I3 ⟨1, rfl, -1, rfl, rfl, rfl⟩) fun vs s4 ⟨o, H4, I4, ps, eo, e4⟩ => ?_
  subst eo e4
  have I5 : Inv X pins σ H4 { s4 with heap := s4.heap.push { cls := .type "slice", data := .fields #[vl, vu, vs] } } := I4.kept (t' := s4.toks) fun b ob q => Heap.get?_push_of_some _ q
  show wpAny (model X.prog X.w) X.A (subscriptTail e (.Slice none none (some (.UnaryOp .USub (.Constant (.int 1) k p1) p2)) p3) (.ref a) (.ref s4.heap.objs.size)) (EP X pins σ Q) X.xe { s4 with heap := s4.heap.push { cls := .type "slice", data := .fields #[vl, vu, vs] } }
  rcases q1 with ⟨hx, q⟩ | ⟨hx, q⟩
  · obtain ⟨its, r, ht, hz⟩ := I5.list hx
    have hlen := r.length
    refine tail_any (ops := [.ref a, .ref s4.heap.objs.size]) ht.isList.typeIs (PySem.slot_list_getitem.lookup) ?_ (by with_unfolding_all rfl)
    refine wpAny_getItem_list_slice ht.isList (Heap.IsSliceOf.new _ vl vu vs) pl pu ps (by decide) ?_ (by rw [List.size_toArray]; omega)
    rw [PySem.W.krv_pick]
    refine ⟨.ref _, _, I5.laid (t' := s4.toks) (o := .lst xs.reverse) (fun b ob q => Heap.get?_push_of_some _ q) (Nat.le_refl _) ?_, rfl, q _ (I5.hok.fresh (Nat.le_refl _))⟩
    exact ⟨by rw [List.length_reverse]; exact hz, _, 0, r.reverse, Heap.get?_push_size _ rfl⟩
  · obtain ⟨its, r, ht, hz⟩ := I5.tuple hx
    have hlen := r.length
    refine tail_any (ops := [.ref a, .ref s4.heap.objs.size]) ht.typeIs (PyProof.Rows.slot_tuple_getitem.lookup) ?_ (by with_unfolding_all rfl)
    refine getItem_tuple_rev ht (Heap.IsSliceOf.new _ vl vu vs) pl pu ps ?_ (by rw [List.size_toArray]; omega)
    refine ⟨.ref _, _, I5.laid (t' := s4.toks) (o := .tup xs.reverse) (fun b ob q => Heap.get?_push_of_some _ q) (Nat.le_refl _) ?_, rfl, q _ (I5.hok.fresh (Nat.le_refl _))⟩
    exact ⟨by rw [List.length_reverse]; exact hz, _, r.reverse, IsTup.new _ _⟩
def revD (d : D) (s : Sto) : R D := match d with
  | .tup xs => .ok (.tup xs.reverse) s
  | d => match rdL s d with
    | some xs => .ok (.lst xs.reverse) s
    | none => .stuck
theorem RpA.rev {K : PySem.W.Frag} {H : Hp} {μ : Mu} : ∀ {vs : List V} {ds : List D}, RpA G K H μ vs ds → RpA G K H μ vs.reverse ds.reverse
  | _, _, .nil => .nil
  | _, _, .cons a r => by
    rw [List.reverse_cons, List.reverse_cons]
    exact (RpA.rev r).append (.cons a .nil)
theorem je_rev {e : Expr} {t : TE} {m : ME} {k : Nat} {p1 p2 p3 pos : Pos} (h : JE X G W e t m) (hK : X.K = G.K := by rfl) : JE X G W (.Subscript e (.Slice none none (some (.UnaryOp .USub (.Constant (.int 1) k p1) p2)) p3) pos) (tRevA G.K t) (mUn revD m) := by
  refine ⟨fun tk => pe_revA hK (h.pe tk), fun σ H μ l s hl hs => (h.sim σ H μ l s hl hs).bind fun x H1 μ1 d s1 g1 r1 p1 => ?_⟩
  unfold revD
  split
  · obtain ⟨a, vs, rfl, h1, p2⟩ := SqT_of p1
    exact fun Q q => ⟨a, vs, rfl, .inr ⟨h1, newTG r1 (RpA.rev p2) q⟩⟩
  · split
    · rename_i e
      obtain ⟨a, vs, rfl, h1, p2⟩ := rdL_ok r1 p1 e
      exact fun Q q => ⟨a, vs, rfl, .inl ⟨SqL.of h1, newLG r1 (RpA.rev p2) q⟩⟩
    · trivial
end
end DL


namespace DL
open PySem PySem.Spec PyProof.Rows L2

/-! ### dicts with ints or texts as keys -/
def keyD : D → Option Key
  | .int i => some (.inl i)
  | .str x => some (.inr x)
  | _ => none
def dKey : Key → D
  | .inl i => .int i
  | .inr x => .str x
def dicD (s : Sto) : D → Option (List (Key × D))
  | .ref n => match s[n]? with
    | some (.dK kvs) => some kvs
    | _ => none
  | _ => none
def valD {α : Type} (kvs : List (Key × α)) (k : Key) : Option α := (kvs.find? fun kv => decide (kv.1 = k)).map (·.2)
def putD {α : Type} (kvs : List (Key × α)) (k : Key) (v : α) : List (Key × α) :=
  if (kvs.any fun kv => decide (kv.1 = k)) = true then kvs.map (fun kv => if kv.1 = k then (kv.1, v) else kv) else kvs ++ [(k, v)]
section
variable {X : Cx} {G : Gm} {K : PySem.W.Frag} {H : Hp} {μ : Mu} {s : Sto}
theorem keyD_V {v : V} {d : D} {k : Key} (p : Rp G K H μ v d) (h : keyD d = some k) : v = kV k := by
  cases p <;> simp only [keyD, Option.some.injEq, reduceCtorEq] at h <;> subst h <;> rfl
theorem dKey_Rp (k : Key) : Rp G K H μ (kV k) (dKey k) := by
  cases k with
  | inl i => exact .int i
  | inr x => exact .str x
theorem dicD_ok {v : V} {d : D} {kvs : List (Key × D)} (r : RS G K H μ s) (p : Rp G K H μ v d) (h : dicD s d = some kvs) : ∃ n a vs, d = .ref n ∧ s[n]? = some (.dK kvs) ∧ μ.tr[n]? = some a ∧ v = .ref a ∧ H a = some (.dK vs) ∧ KVp G K H μ vs kvs := by
  cases d <;> first | (cases h; done) | skip
  rename_i n
  cases p
  rename_i a ha
  unfold dicD at h
  dsimp only at h
  cases e : s[n]? with
  | none => rw [e] at h; cases h
  | some u =>
    rw [e] at h
    cases u with
    | dK q =>
      cases h
      obtain ⟨vs, h1, h2⟩ := r.at_ n a _ ha e
      exact ⟨n, a, vs, rfl, e, ha, rfl, h1, h2⟩
    | _ => cases h
theorem KVp.val {vs : List (Key × V)} {kvs : List (Key × D)} (p : KVp G K H μ vs kvs) (k : Key) : match valD kvs k with
    | some d => ∃ v, valV vs k = some v ∧ Rp G K H μ v d
    | none => valV vs k = none := by
  induction p with
  | nil => rfl
  | @cons k' v d vs ds a r ih =>
    by_cases h : k' = k
    · have e1 : valD ((k', d) :: ds) k = some d := by simp [valD, List.find?_cons, h]
      rw [e1]
      exact ⟨v, valV_pos (p := (k', v)) h, a⟩
    · have e1 : valD ((k', d) :: ds) k = valD ds k := by simp [valD, List.find?_cons, h]
      have e2 : valV ((k', v) :: vs) k = valV vs k := valV_neg (p := (k', v)) h
      rw [e1, e2]
      exact ih
theorem KVp.any {vs : List (Key × V)} {kvs : List (Key × D)} (p : KVp G K H μ vs kvs) (k : Key) : (kvs.any fun kv => decide (kv.1 = k)) = (vs.any fun kv => decide (kv.1 = k)) := by
  induction p with
  | nil => rfl
  | cons a r ih => rw [List.any_cons, List.any_cons, ih]
theorem KVp.mapPut {vs : List (Key × V)} {kvs : List (Key × D)} (p : KVp G K H μ vs kvs) {k : Key} {v : V} {d : D} (q : Rp G K H μ v d) : KVp G K H μ (vs.map fun kv => if kv.1 = k then (kv.1, v) else kv) (kvs.map fun kv => if kv.1 = k then (kv.1, d) else kv) := by
  induction p with
  | nil => exact .nil
  | @cons k' v' d' vs ds a r ih =>
    rw [List.map_cons, List.map_cons]
    by_cases h : k' = k
    · simp only [h, if_true]
      exact .cons q ih
    · simp only [h, if_false]
      exact .cons a ih
theorem KVp.snoc {vs : List (Key × V)} {kvs : List (Key × D)} (p : KVp G K H μ vs kvs) {k : Key} {v : V} {d : D} (q : Rp G K H μ v d) : KVp G K H μ (vs ++ [(k, v)]) (kvs ++ [(k, d)]) := by
  induction p with
  | nil => exact .cons q .nil
  | cons a r ih => exact .cons a ih
theorem KVp.put {vs : List (Key × V)} {kvs : List (Key × D)} (p : KVp G K H μ vs kvs) {k : Key} {v : V} {d : D} (q : Rp G K H μ v d) : KVp G K H μ (putK vs k v) (putD kvs k d) := by
  unfold putK putD
  rw [p.any k]
  split
  · exact p.mapPut q
  · exact p.snoc q
theorem KVp.len {vs : List (Key × V)} {kvs : List (Key × D)} (p : KVp G K H μ vs kvs) : vs.length = kvs.length := by
  induction p with
  | nil => rfl
  | cons a r ih => rw [List.length_cons, List.length_cons, ih]

/-! ### d[k] -/
def rDIx : R2 := fun x y H Q => ∃ a v, x = .ref a ∧ DGet H a y (some v) ∧ Q v H
theorem ix_dict (hu : X.A.units + 1 < cLine) : IxR X rDIx := by
  intro value slice pins s σ H x y v u Q I rx ry h hs
  obtain ⟨a, w, rfl, g, q⟩ := h
  cases rx
  refine tail_any (ops := [.ref a, u]) (dict_typeIs I g) PySem.F.slot_dict_getitem.lookup ?_ hs
  exact d_getItem hu I g ry fun w' s3 I3 rw' => ⟨w, H, I3, rw', q⟩
def rIxA (K : PySem.W.Frag) : R2 := fun x y H Q => rIx K x y H Q ∨ rDIx x y H Q
def ixA (d e : D) (s : Sto) : R D := match dicD s d with
  | some kvs => match keyD e with
    | some k => match valD kvs k with
      | some v => .ok v s
      | none => .stuck
    | none => .stuck
  | none => ixD d e s
theorem okP.wk {α β : Type} {t t' : (β → Hp → Prop) → Prop} {W : Value → Option Addr → Hp → Prop} {Rl : Hp → Mu → β → α → Prop} {r : R α} (h : okP G K t W H μ Rl r) (f : ∀ Q, t Q → t' Q) : okP G K t' W H μ Rl r := by
  cases r with
  | ok a s => exact fun Q k => f Q (h Q k)
  | ex c s => exact fun Q k => f Q (h Q k)
  | stuck => trivial
theorem s_ixA : SimR G K (rIxA K) ixA := by
  intro H μ s x y d e W r p q
  cases e1 : dicD s d with
  | none =>
    simp only [ixA, e1]
    exact okP.wk (s_ix H μ s x y d e W r p q) fun Q h => .inl h
  | some kvs =>
    obtain ⟨n, a, vs, rfl, h1, h2, rfl, h3, h4⟩ := dicD_ok r p e1
    cases e2 : keyD e with
    | none => simp only [ixA, e1, e2]; trivial
    | some k =>
      obtain rfl := keyD_V q e2
      have hv := h4.val k
      cases e3 : valD kvs k with
      | none => simp only [ixA, e1, e2, e3]; trivial
      | some d =>
        rw [e3] at hv
        obtain ⟨v, h5, h6⟩ := hv
        simp only [ixA, e1, e2, e3]
        exact now r h6 fun Q z => .inr ⟨a, v, rfl, h5 ▸ DGet.k h3, z⟩
section
variable {W : WX}
theorem je_ixA {a b : Expr} {ta tb : TE} {ma mb : ME} {pos : Pos} (hu : X.A.units + 1 < cLine) (ha : JE X G W a ta ma) (hb : JE X G W b tb mb) (hp : PlainIx b := by exact fun _ _ => rfl) (hK : X.K = G.K := by rfl) : JE X G W (.Subscript a b pos) (tOp (rIxA G.K) ta tb) (mOp ixA ma mb) :=
  ⟨fun tk => pe_ix (IxR.or (hK ▸ ix_seq) (ix_dict hu)) (ha.pe tk) (hb.pe tk) hp, sim_op s_ixA ha hb⟩
theorem room1 {k : Nat} {A : Around} (r : Room k A) : A.units + 1 < cLine := by have := r.un; omega
end

/-! ### d[k] = v -/
def rSetA : TSet := fun o i v H Q => rSetL o i v H Q ∨ rSetD o i v H Q
theorem set_A (hu : X.A.units + 1 < cLine) : PSet X rSetA := by
  intro pins s σ H o i v ov iv u Q I ro ri rv h
  rcases h with h | h
  · exact set_list pins s σ H o i v ov iv u Q I ro ri rv h
  · exact set_dict hu pins s σ H o i v ov iv u Q I ro ri rv h
def setA (o i v : D) (s : Sto) : R Unit := match dicD s o with
  | some kvs => match o, keyD i with
    | .ref n, some k => if kvs.length < 100000 then .ok () (s.set n (.dK (putD kvs k v))) else .stuck
    | _, _ => .stuck
  | none => setD o i v s
theorem s_setA : SimSet G K rSetA setA := by
  intro H μ s x y z o i v W r p q t
  cases e1 : dicD s o with
  | none =>
    simp only [setA, e1]
    exact okP.wk (s_set H μ s x y z o i v W r p q t) fun Q h => .inl h
  | some kvs =>
    obtain ⟨n, a, vs, rfl, h1, h2, rfl, h3, h4⟩ := dicD_ok r p e1
    cases e2 : keyD i with
    | none => simp only [setA, e1, e2]; trivial
    | some k =>
      obtain rfl := keyD_V q e2
      simp only [setA, e1, e2]
      split
      · rename_i hz
        have hm : a ∈ μ.tr := List.mem_iff_getElem?.mpr ⟨n, h2⟩
        have g : Grow H μ (L2.upd H a (.dK (putK vs k z))) μ := r.gwrite hm
        exact fun Q q => .inr ⟨a, _, rfl, DPut.k h3 (lt_line (by rw [h4.len]; exact hz)), q () _ μ g (r.write h2 ⟨_, upd_same, (h4.put t).mon g.mono⟩) trivial⟩
      · trivial

/-! ### k in d -/
def rDIn (neg : Bool) : R2 := fun x y H Q => ∃ a o, y = .ref a ∧ DGet H a x o ∧ Q (.bl (if neg then !o.isSome else o.isSome)) H
theorem op_dIn (hu : X.A.units + 1 < cLine) : OpR X (compareOp .In) (rDIn false) := by
  intro pins s σ H x y v u Q I rx ry h
  obtain ⟨a, o, rfl, g, q⟩ := h
  cases ry
  exact d_in hu I g rx fun s' I' => ⟨.bl _, H, I', rfl, q⟩
theorem op_dNin (hu : X.A.units + 1 < cLine) : OpR X (compareOp .NotIn) (rDIn true) := by
  intro pins s σ H x y v u Q I rx ry h
  obtain ⟨a, o, rfl, g, q⟩ := h
  cases ry
  exact d_notIn hu I g rx fun s' I' => ⟨.bl _, H, I', rfl, q⟩
def rInB (K : PySem.W.Frag) (neg : Bool) : R2 := fun x y H Q => rInA K neg x y H Q ∨ rDIn neg x y H Q
theorem op_inB (hK : X.K = K) (hu : X.A.units + 65 < cLine) : OpR X (compareOp .In) (rInB K false) := DL.OpR.or (op_inA hK hu) (op_dIn (by omega))
theorem op_ninB (hK : X.K = K) (hu : X.A.units + 65 < cLine) : OpR X (compareOp .NotIn) (rInB K true) := DL.OpR.or (op_ninA hK hu) (op_dNin (by omega))
def inE (d e : D) (s : Sto) : R D := match dicD s e with
  | some kvs => match keyD d with
    | some k => .ok (.bl (valD kvs k).isSome) s
    | none => .stuck
  | none => inD d e s
def ninE (d e : D) (s : Sto) : R D := match dicD s e with
  | some kvs => match keyD d with
    | some k => .ok (.bl (!(valD kvs k).isSome)) s
    | none => .stuck
  | none => ninD d e s
theorem KVp.isSome {vs : List (Key × V)} {kvs : List (Key × D)} (p : KVp G K H μ vs kvs) (k : Key) : (valV vs k).isSome = (valD kvs k).isSome := by
  have h := p.val k
  cases e : valD kvs k with
  | none => rw [e] at h; rw [h]; rfl
  | some d => rw [e] at h; obtain ⟨v, h1, _⟩ := h; rw [h1]; rfl
theorem s_inE : SimR G K (rInB K false) inE := by
  intro H μ s x y d e W r p q
  cases e1 : dicD s e with
  | none =>
    simp only [inE, e1]
    exact okP.wk (s_in H μ s x y d e W r p q) fun Q h => .inl h
  | some kvs =>
    obtain ⟨n, a, vs, rfl, h1, h2, rfl, h3, h4⟩ := dicD_ok r q e1
    cases e2 : keyD d with
    | none => simp only [inE, e1, e2]; trivial
    | some k =>
      obtain rfl := keyD_V p e2
      simp only [inE, e1, e2]
      exact now r (.bl _) fun Q z => .inr ⟨a, _, rfl, DGet.k h3, by rw [h4.isSome k]; exact z⟩
theorem s_ninE : SimR G K (rInB K true) ninE := by
  intro H μ s x y d e W r p q
  cases e1 : dicD s e with
  | none =>
    simp only [ninE, e1]
    exact okP.wk (s_nin H μ s x y d e W r p q) fun Q h => .inl h
  | some kvs =>
    obtain ⟨n, a, vs, rfl, h1, h2, rfl, h3, h4⟩ := dicD_ok r q e1
    cases e2 : keyD d with
    | none => simp only [ninE, e1, e2]; trivial
    | some k =>
      obtain rfl := keyD_V p e2
      simp only [ninE, e1, e2]
      exact now r (.bl _) fun Q z => .inr ⟨a, _, rfl, DGet.k h3, by rw [h4.isSome k]; exact z⟩
end

/-! ### displays -/
section
variable {X : Cx} {G : Gm} {K : PySem.W.Frag} {H : Hp} {μ : Mu} {s : Sto} {W : WX}
theorem newDG {H : Hp} {μ : Mu} {s : Sto} (r : RS G K H μ s) {vs : List (Key × V)} {kvs : List (Key × D)} (p : KVp G K H μ vs kvs) {Q : VK} (q : ∀ b H' μ', Grow H μ H' μ' → RS G K H' μ' (s ++ [.dK kvs]) → Rp G K H' μ' b (.ref s.length) → Q b H') : ∀ a, H a = none → Q (.ref a) (L2.upd H a (.dK vs)) :=
  fun a ha => q _ _ (μ.add a) (r.gtrack ha) (r.track ha ⟨vs, upd_same, p.mon (r.gtrack ha).mono⟩) (.ref (by show (μ.tr ++ [a])[s.length]? = some a; rw [← r.len, List.getElem?_append_right (Nat.le_refl _), Nat.sub_self]; rfl))
def mNewK : ME := fun _ s => .ok (.ref s.length) (s ++ [.dK []])
theorem je_newK {pos : Pos} : JE X G W (.Dict [] [] pos) tDNewK mNewK := ⟨fun _ => pe_dnewK, fun σ H μ l s hl hs Q q => newDG hs .nil fun b H' μ' g r p => q b H' μ' g r p⟩
def mPs (l : Loc) : List (ME × ME) → Sto → R (List (Key × D))
  | [], s => .ok [] s
  | (mk, mv) :: r, s => (mk l s).bind fun d s1 => (mv l s1).bind fun e s2 => match keyD d with
    | some k => (mPs l r s2).bind fun kvs s3 => .ok ((k, e) :: kvs) s3
    | none => .stuck
def KVs (G : Gm) (K : PySem.W.Frag) (H : Hp) (μ : Mu) (ps : List (V × V)) (kvs : List (Key × D)) : Prop := ∃ vs : List (Key × V), ps = vs.map (fun kv => (kV kv.1, kv.2)) ∧ KVp G K H μ vs kvs
structure JPs (X : Cx) (G : Gm) (W : WX) (pos : Pos) (keys : List (Option Expr)) (values : List Expr) (trs : List (TE × TE)) (m : List (ME × ME)) : Prop where
  pe : Takes X W → PPs X pos keys values trs
  sim : ∀ (σ : L2.St) (H : Hp) (μ : Mu) (l : Loc) (s : Sto), RL G G.K H μ σ l → RS G G.K H μ s → okP G G.K (tPairs trs σ H) (fun c d H' => W c d σ H') H μ (KVs G G.K) (mPs l m s)
theorem jps_nil {pos : Pos} : JPs X G W pos [] [] [] [] := ⟨fun _ => pps_nil, fun σ H μ l s hl hs Q q => q [] H μ Grow.refl hs ⟨[], rfl, .nil⟩⟩
theorem jps_cons {pos : Pos} {k v : Expr} {ks : List (Option Expr)} {vs : List Expr} {tk tv : TE} {trs : List (TE × TE)} {mk mv : ME} {ms : List (ME × ME)} (hk : JE X G W k tk mk) (hv : JE X G W v tv mv) (hr : JPs X G W pos ks vs trs ms) :
    JPs X G W pos (some k :: ks) (v :: vs) ((tk, tv) :: trs) ((mk, mv) :: ms) := by
  refine ⟨fun tk => pps_cons (hk.pe tk) (hv.pe tk) (hr.pe tk), fun σ H μ l s hl hs => ?_⟩
  refine (hk.sim σ H μ l s hl hs).bind (u := fun x H1 Q => tv σ H1 fun y H2 => tPairs trs σ H2 fun ps H3 => Q ((x, y) :: ps) H3) fun x H1 μ1 d s1 g1 r1 p1 => ?_
  refine (hv.sim σ H1 μ1 l s1 (hl.mono g1) r1).bind (u := fun y H2 Q => tPairs trs σ H2 fun ps H3 => Q ((x, y) :: ps) H3) fun y H2 μ2 e s2 g2 r2 p2 => ?_
  cases ek : keyD d with
  | none => trivial
  | some k =>
    obtain rfl := keyD_V p1 ek
    dsimp only
    refine (hr.sim σ H2 μ2 l s2 ((hl.mono g1).mono g2) r2).bind (u := fun ps H3 Q => Q ((kV k, y) :: ps) H3) fun ps H3 μ3 kvs s3 g3 r3 p3 => ?_
    obtain ⟨vs, rfl, q3⟩ := p3
    exact fun Q q => q _ H3 μ3 Grow.refl r3 ⟨(k, y) :: vs, rfl, .cons (p2.mono g3) q3⟩
def mergeD {α : Type} (kvs more : List (Key × α)) : List (Key × α) := more.foldl (fun acc kv => putD acc kv.1 kv.2) kvs
theorem KVp.merge {more : List (Key × V)} {dm : List (Key × D)} (p : KVp G K H μ more dm) : ∀ {vs : List (Key × V)} {kvs : List (Key × D)}, KVp G K H μ vs kvs → KVp G K H μ (mergeK vs more) (mergeD kvs dm) := by
  induction p with
  | nil => exact fun q => q
  | @cons k v d vs ds a r ih => exact fun q => ih (q.put a)
def mDisp (ms : List (ME × ME)) : ME := fun l s => (mPs l ms (s ++ [.dK []])).bind fun kvs s2 => match s2[s.length]? with
  | some (.dK []) => if kvs.length ≤ 15 then .ok (.ref s.length) (s2.set s.length (.dK (mergeD [] kvs))) else .stuck
  | _ => .stuck
theorem je_disp {pos : Pos} {keys : List (Option Expr)} {values : List Expr} {trs : List (TE × TE)} {ms : List (ME × ME)} (h : JPs X G W pos keys values trs ms) (hall : keys.all (·.isSome) = true := by rfl) (hl : keys.length = values.length := by rfl) (h0 : keys ≠ [] := by exact fun h => nomatch h)
    (h15 : keys.length ≤ 15 := by decide) : JE X G W (.Dict keys values pos) (tDisp trs) (mDisp ms) := by
  refine ⟨fun tk => pe_disp (h.pe tk) hall hl h0 h15, fun σ H μ l s hl hs => ?_⟩
  have key : ∀ p, H p = none → okP G G.K (fun Q : V → Hp → Prop => tPairs trs σ (L2.upd H p (.dK [])) fun ps H2 => H2 p = some (.dK []) ∧ ∃ kvs : List (Key × V), ps = kvs.map (fun kv => (kV kv.1, kv.2)) ∧ kvs.length ≤ 15 ∧ Q (.ref p) (L2.upd H2 p (.dK (mergeK [] kvs)))) (fun c d H' => W c d σ H') H μ (Rp G G.K) (mDisp ms l s) := by
    intro p hp
    have g0 : Grow H μ (L2.upd H p (.dK [])) (μ.add p) := hs.gtrack hp
    have r0 : RS G G.K (L2.upd H p (.dK [])) (μ.add p) (s ++ [.dK []]) := hs.track hp ⟨[], upd_same, .nil⟩
    refine okP.up g0 ?_
    refine (h.sim σ _ _ l _ (hl.mono g0) r0).bind (u := fun ps H2 (Q : V → Hp → Prop) => H2 p = some (.dK []) ∧ ∃ kvs : List (Key × V), ps = kvs.map (fun kv => (kV kv.1, kv.2)) ∧ kvs.length ≤ 15 ∧ Q (V.ref p) (L2.upd H2 p (.dK (mergeK [] kvs)))) fun ps H2 μ2 kvs s2 g2 r2 p2 => ?_
    obtain ⟨vs, rfl, q2⟩ := p2
    have hi : μ2.tr[s.length]? = some p := g2.pre _ _ (by show (μ.tr ++ [p])[s.length]? = some p; rw [← hs.len, List.getElem?_append_right (Nat.le_refl _), Nat.sub_self]; rfl)
    split
    · rename_i e
      split
      · rename_i hz
        obtain ⟨ws, h1, h2⟩ := r2.at_ _ p _ hi e
        cases h2
        have hm : p ∈ μ2.tr := List.mem_iff_getElem?.mpr ⟨_, hi⟩
        have g : Grow H2 μ2 (L2.upd H2 p (.dK (mergeK [] vs))) μ2 := r2.gwrite hm
        exact fun Q q => ⟨h1, vs, rfl, by rw [q2.len]; exact hz, q _ _ μ2 g (r2.write hi ⟨_, upd_same, (KVp.merge q2 .nil).mon g.mono⟩) (.ref hi)⟩
      · trivial
    · trivial
  have hd : ∀ r : R D, r = mDisp ms l s → okP G G.K (tDisp trs σ H) (fun c d H' => W c d σ H') H μ (Rp G G.K) r := by
    intro r hr
    cases r with
    | stuck => trivial
    | ok d s1 =>
      intro Q q p hp
      have := key p hp
      rw [← hr] at this
      exact this Q q
    | ex c s1 =>
      intro Q q p hp
      have := key p hp
      rw [← hr] at this
      exact this Q q
  exact hd _ rfl
end
end DL


namespace DL
open PySem PySem.Spec PyProof.Rows L2
section
variable {X : Cx} {G : Gm} {K : PySem.W.Frag} {W : WX}
/-! ### x.bit_length() -/
def bitsD : D → Sto → R D
  | .int i, s => .ok (.int (Builtin.Int.intBits i : Nat)) s
  | _, _ => .stuck
theorem je_bits {o : Expr} {t : TE} {m : ME} {apos pos : Pos} (h : JE X G W o t m) (hbase : attributeBase o "bit_length" X.env (eval o X.env) = eval o X.env := by rfl) (hline : (apos.endLine == pos.line) = true := by rfl) : JE X G W (.Call (.Attribute o "bit_length" apos) [] [] pos) (tBits t) (mUn bitsD m) := by
  refine ⟨fun tk => pe_bits (h.pe tk) hbase hline, fun σ H μ l s hl hs => (h.sim σ H μ l s hl hs).bind fun x H1 μ1 d s1 g1 r1 p1 => ?_⟩
  cases p1 <;> first | exact trivial | skip
  exact now r1 (.int _) fun Q z => ⟨_, rfl, z⟩
/-! ### x += y, x *= y: ints -/
def iaddD : D → D → Sto → R D
  | .int i, .int j, s => .ok (.int (i + j)) s
  | _, _, _ => .stuck
theorem s_iadd : SimR G K (rI0 fun i j => .int (i + j)) iaddD := by
  intro H μ s x y d e W r p q
  cases p <;> cases q <;> first | exact trivial | skip
  exact now r (.int _) fun Q z => ⟨_, _, rfl, rfl, z⟩
def rIMulA : R2 := fun x y H Q => rI CMul (fun i j => .int (i * j)) x y H Q ∨ rI CMulW (fun i j => .int (i * j)) x y H Q
theorem iop_mulW : OpR X (inplaceOp .Mult) rIMulA := DL.OpR.or iop_mul (opI fun _ _ _ _ _ _ _ hc q => imul_int q hc.ok)
def imulD : D → D → Sto → R D
  | .int i, .int j, s => if mulOk i j = true then .ok (.int (i * j)) s else .stuck
  | _, _, _ => .stuck
theorem s_imul : SimR G K rIMulA imulD := by
  intro H μ s x y d e W r p q
  cases p <;> cases q <;> first | exact trivial | skip
  simp only [imulD]
  split
  · rename_i h
    rcases mulOk_or h with h | h
    · exact now r (.int _) fun Q z => .inl ⟨_, _, rfl, rfl, h, z⟩
    · exact now r (.int _) fun Q z => .inr ⟨_, _, rfl, rfl, h, z⟩
  · trivial
end
end DL


namespace DL
open PySem PySem.Spec PyProof.Rows L2
/-! ### [.. for x in xs], xs a tracked list that stays as it is meanwhile -/
section
variable {X : Cx} {G : Gm} {K : PySem.W.Frag} {H : Hp} {μ : Mu} {s : Sto} {W : WX} {k : Nat}
def RIn (G : Gm) (K : PySem.W.Frag) (H : Hp) (μ : Mu) (n : Nat) (J : It) (ds : List D) : Prop := ∀ H' μ', Mono H μ H' μ' → ∀ s, s[n]? = some (.lst ds) → RS G K H' μ' s → ∀ i : Nat,
  (∀ d, ds[i]? = some d → J.go i H' ∧ ∀ x H'', J.yld i H' x H'' → Grow H' μ' H'' μ' ∧ RS G K H'' μ' s ∧ Rp G K H'' μ' x d) ∧ (ds.length ≤ i → J.stop i H')
theorem RIn.list {n : Nat} {a : Addr} {ds : List D} (h : μ.tr[n]? = some a) : RIn G K H μ n (Itl K a) ds := by
  intro H' μ' g s hs r i
  obtain ⟨vs, q1, q2⟩ := r.at_ n a _ (g.pre n a h) hs
  refine ⟨fun d e => ?_, fun hi => ⟨vs, SqL.of q1, by rw [q2.length]; exact hi⟩⟩
  obtain ⟨v, h1, h2⟩ := q2.get e
  refine ⟨⟨vs, v, SqL.of q1, h1⟩, fun x H'' hy => ?_⟩
  obtain ⟨rfl, hy⟩ := hy
  have := hy vs (SqL.of q1)
  rw [h1] at this
  cases this
  exact ⟨Grow.refl, r, h2⟩
open Classical in
noncomputable def lcLC (n : Nat) (xs : List D) (tg : MG) (tt : MT) (me : ME) : List D → MA
  | [], _, s => if s[n]? = some (.lst xs) then .ok [] s else .stuck
  | d :: ds, l, s => if s[n]? = some (.lst xs) then (tg d l s).bind fun l1 s1 => (tt l1 s1).bind fun b s2 => match b with
    | true => (me l1 s2).bind fun y s3 => (lcLC n xs tg tt me ds l s3).bind fun ys s4 => .ok (y :: ys) s4
    | false => lcLC n xs tg tt me ds l s2
    else .stuck
theorem lcLC_at {n : Nat} {xs : List D} {tg : MG} {tt : MT} {me : ME} {ds : List D} {l : Loc} {s s2 : Sto} {ys : List D} (h : lcLC n xs tg tt me ds l s = .ok ys s2) : s[n]? = some (.lst xs) := by
  by_cases e : s[n]? = some (.lst xs)
  · exact e
  · cases ds <;> simp only [lcLC, if_neg e] at h <;> cases h
/-- a comprehension's list while it grows: D is reserved -/
theorem lc_runC {n : Nat} {ds : List D} {s : Sto} {wi : TI} {g : TG} {tt : TT} {te : TE} {vs : List Nat} {tg : MG} {mt : MT} {me : ME} {σ : L2.St} {l : Loc}
    (hkeep : Keeps g vs)
    (hi : ∀ Q, (∀ b H' μ', Grow H μ H' μ' → RS G K H' μ' s → RIn G K H' μ' n b ds → Q b H') → wi σ H Q)
    (hg : ∀ (σ : L2.St) (H : Hp) (μ : Mu) (l : Loc) (s : Sto) (v : V) (d : D), RL G K H μ σ l → RS G K H μ s → Rp G K H μ v d → okP G K (fun Q : L2.St → Hp → Prop => g v σ H Q) (fun _ _ _ => False) H μ (RL G K) (tg d l s))
    (ht : ∀ (σ : L2.St) (H : Hp) (μ : Mu) (l : Loc) (s : Sto), RL G K H μ σ l → RS G K H μ s → okP G K (tt σ H) (fun _ _ _ => False) H μ BEq2 (mt l s))
    (he : ∀ (σ : L2.St) (H : Hp) (μ : Mu) (l : Loc) (s : Sto), RL G K H μ σ l → RS G K H μ s → okP G K (te σ H) (fun _ _ _ => False) H μ (Rp G K) (me l s))
    (hl : RL G K H μ σ l) (f : List D → Sto → R D)
    (hf : ∀ (H' : Hp) (μ' : Mu) (s' : Sto) (Da : Addr) (ys : List D) (us : List V) (d : D) (s2 : Sto), f ys s' = .ok d s2 → Grow H μ H' μ' → RS G K H' ⟨μ'.tr, Da :: μ'.rs⟩ s' → H' Da = some (.lst us) → H Da = none → RpA G K H' ⟨μ'.tr, Da :: μ'.rs⟩ us ys → ∃ μ2, Grow H μ H' μ2 ∧ RS G K H' μ2 s2 ∧ Rp G K H' μ2 (.ref Da) d)
    (hfx : ∀ ys s' c s2, f ys s' ≠ .ex c s2) (hfl : ∀ ys s' d s2, f ys s' = .ok d s2 → ys.length ≤ 100000) :
    okP G K (tLc wi g tt te vs σ H) (fun c d H' => W c d σ H') H μ (Rp G K) ((noEx (lcLC n ds tg mt me ds (wipeD l vs) s)).bind f) := by
    cases e2 : lcLC n ds tg mt me ds (wipeD l vs) s with
    | stuck => trivial
    | ex c s2 => trivial
    | ok ys s2 =>
      show okP G K (tLc wi g tt te vs σ H) (fun c d H' => W c d σ H') H μ (Rp G K) (f ys s2)
      cases e3 : f ys s2 with
      | stuck => trivial
      | ex c s3 => exact absurd e3 (hfx _ _ _ _)
      | ok d s3 =>
        intro Q q
        have hlen := hfl _ _ _ _ e3
        refine hi _ fun J H1 μ1 g1 r1 ri Da hD => ?_
        have hDn : Da ∉ μ1 := r1.notin hD
        have hm1 : ∀ {H' : Hp} {μ' : Mu}, Grow H1 μ1 H' ⟨μ'.tr, μ1.rs⟩ → μ'.rs = Da :: μ1.rs → Mono H1 μ1 H' μ' := fun {H' μ'} g hr => by
          refine ⟨g.keep, fun a o h n z => ?_, g.pre⟩
          rcases z with z | z
          · exact g.notin h n (.inl z)
          · rw [hr] at z
            rcases List.mem_cons.mp z with z | z
            · exact ne_of_none h hD z
            · exact n (.inr z)
        refine ⟨fun i m H' => ∃ (μ' : Mu) (s' : Sto) (us : List V) (acc rest : List D), Grow H1 μ1 H' ⟨μ'.tr, μ1.rs⟩ ∧ μ'.rs = Da :: μ1.rs ∧ RS G K H' μ' s' ∧ H' Da = some (.lst us) ∧ RpA G K H' μ' us acc ∧
          lcLC n ds tg mt me (ds.drop i) (wipeD l vs) s' = .ok rest s2 ∧ ys = acc ++ rest ∧ i + m = ds.length, ⟨ds.length, ?_⟩, fun i m H' hW => ?_⟩
        · have m0 : Mono H1 μ1 (upd H1 Da (.lst [])) ⟨μ1.tr, Da :: μ1.rs⟩ := by
            refine ⟨fun a o h _ => by rw [upd_ne (ne_of_none h hD)]; exact h, fun a o h n z => ?_, fun _ _ h => h⟩
            rcases z with z | z
            · exact n (.inl z)
            · rcases List.mem_cons.mp z with z | z
              · exact ne_of_none h hD z
              · exact n (.inr z)
          refine ⟨⟨μ1.tr, Da :: μ1.rs⟩, s, [], [], ys, r1.galloc hD, rfl, ⟨r1.len, r1.nd, fun n p u a b => (r1.at_ n p u a b).mon m0 fun u e => by rw [upd_ne (ne_of_none e hD)]; exact e, fun a ha => ?_⟩, upd_same, .nil, e2, rfl, by omega⟩
          rcases List.mem_cons.mp ha with z | z
          · exact ⟨⟨_, by rw [z, upd_same]⟩, fun w => hDn (.inl (z ▸ w))⟩
          · obtain ⟨⟨o, e⟩, n⟩ := r1.rk a z
            exact ⟨⟨o, by rw [upd_ne (ne_of_none e hD)]; exact e⟩, n⟩
        · obtain ⟨μ', s', us, acc, rest, g', hr, rs', hus, racc, hrun, hys, him⟩ := hW
          have mono' := hm1 g' hr
          have hkk := lcLC_at hrun
          obtain ⟨rgo, rstop⟩ := ri H' μ' mono' s' hkk rs' i
          by_cases hi2 : ds.length ≤ i
          · left
            refine ⟨rstop hi2, ?_⟩
            rw [List.drop_of_length_le hi2] at hrun
            simp only [lcLC, hkk, if_true, R.ok.injEq] at hrun
            obtain ⟨rfl, rfl⟩ := hrun
            rw [List.append_nil] at hys
            subst hys
            have em : (⟨μ'.tr, Da :: μ1.rs⟩ : Mu) = μ' := by rw [← hr]
            obtain ⟨μ2, k1, k2, k3⟩ := hf H' ⟨μ'.tr, μ1.rs⟩ s' Da ys us d s3 e3 (g1.trans g') (by show RS G K H' ⟨μ'.tr, Da :: μ1.rs⟩ s'; rw [em]; exact rs') hus (g1.none_back r1 hD) (by show RpA G K H' ⟨μ'.tr, Da :: μ1.rs⟩ us ys; rw [em]; exact racc)
            exact q _ H' μ2 k1 k2 k3
          · right
            have hlt : i < ds.length := by omega
            rw [List.drop_eq_getElem_cons hlt] at hrun
            simp only [lcLC, hkk, if_true] at hrun
            obtain ⟨l1, t1, h1, hrun⟩ := bind_ok_inv hrun
            obtain ⟨b, t2, h2, hrun⟩ := bind_ok_inv hrun
            have hgo := rgo ds[i] (List.getElem?_eq_getElem hlt)
            refine ⟨hgo.1, fun H5 => ∃ (μ' : Mu) (s' : Sto) (us : List V) (acc rest : List D), Grow H1 μ1 H5 ⟨μ'.tr, μ1.rs⟩ ∧ μ'.rs = Da :: μ1.rs ∧ RS G K H5 μ' s' ∧ H5 Da = some (.lst us) ∧ RpA G K H5 μ' us acc ∧
              lcLC n ds tg mt me (ds.drop (i + 1)) (wipeD l vs) s' = .ok rest s2 ∧ ys = acc ++ rest, fun H5 h5 => ?_, fun x H'' hy => ?_⟩
            · obtain ⟨a, b, c, dd, e, f1, f2, f3, f4, f5, f6, f7⟩ := h5
              exact ⟨m - 1, by omega, a, b, c, dd, e, f1, f2, f3, f4, f5, f6, f7, by omega⟩
            · obtain ⟨gy, ry, py⟩ := hgo.2 x H'' hy
              have hlw : RL G K H'' μ' (wipe σ vs) (wipeD l vs) := (((hl.mono g1).mon mono').mono gy).wipe vs
              have hDr : Da ∈ μ'.rs := by rw [hr]; exact List.mem_cons_self
              have zg := hg (wipe σ vs) H'' μ' (wipeD l vs) s' x ds[i] hlw ry py
              rw [h1] at zg
              refine hkeep.two (zg _ fun σ2 H2 μ2 g2 r2 p2 => ?_)
              have zt := ht σ2 H2 μ2 l1 t1 p2 r2
              rw [h2] at zt
              refine zt _ fun b' H3 μ3 g3 r3 hb => ?_
              subst hb
              have gg3 : Grow H' μ' H3 μ3 := (gy.trans g2).trans g3
              cases b' with
              | false =>
                rw [if_neg Bool.false_ne_true]
                dsimp only at hrun
                refine ⟨μ3, t2, us, acc, rest, Grow.over r1 g' hr hD gg3 fun _ _ => rfl, gg3.rs.trans hr, r3, ?_, racc.mono gg3, hrun, hys⟩
                rw [gg3.res Da hDr]; exact hus
              | true =>
                rw [if_pos rfl]
                dsimp only at hrun
                obtain ⟨y, t3, h3, hrun⟩ := bind_ok_inv hrun
                obtain ⟨ys', t4, h4, hrun⟩ := bind_ok_inv hrun
                simp only [R.ok.injEq] at hrun
                obtain ⟨rfl, rfl⟩ := hrun
                have ze := he σ2 H3 μ3 l1 t2 (p2.mono g3) r3
                rw [h3] at ze
                refine ze _ fun v H4 μ4 g4 r4 p4 => ?_
                have gg4 : Grow H' μ' H4 μ4 := gg3.trans g4
                have hr4 : μ4.rs = Da :: μ1.rs := gg4.rs.trans hr
                have hus4 : H4 Da = some (.lst us) := by rw [gg4.res Da hDr]; exact hus
                refine ⟨us, hus4, lt_line ?_, ?_⟩
                · rw [racc.length]
                  have : ys.length = acc.length + (ys'.length + 1) := by rw [hys, List.length_append, List.length_cons]
                  omega
                · obtain ⟨r5, m5⟩ := r4.rwrite (Da := Da) (o := .lst (us ++ [v])) (by rw [hr4]; exact List.mem_cons_self)
                  refine ⟨μ4, t3, us ++ [v], acc ++ [y], ys', Grow.over r1 g' hr hD gg4 fun a ha => upd_ne ha, hr4, r5, upd_same, ((racc.mono gg4).append (.cons p4 .nil)).mon m5, h4, ?_⟩
                  rw [hys, List.append_assoc]; rfl

noncomputable def mLcR (own : List Nat) (i : Nat) (tg : MG) (tt : MT) (me : ME) : ME := fun l s => match l[i]? with
  | some (some (.ref n)) => match s[n]? with
    | some (.lst ds) => (noEx (lcLC n ds tg tt me ds (wipeD l own) s)).bind fun ys s2 => if ys.length ≤ 100000 then .ok (.lst ys) s2 else .stuck
    | _ => .stuck
  | _ => .stuck
section
variable {elt tg iter : Expr} {ifs : List Expr} {scope : Scope} {own : List (Str × Nat)} {pos : Pos} {g : TG} {tt : TT} {te : TE} {mg : MG} {mt : MT} {me : ME}
theorem lc_simR {i : Nat} (hk : Keeps g (own.map (·.2)))
    (hg : ∀ (s : Shared) (H : Hp) (C : Addr) (cl : List (Str × Addr)) (fp : List Addr), JG (X.blk s H scope (compEnvC scope cl C X.env) fp) G W0 tg g mg) (ht : ∀ (s : Shared) (H : Hp) (C : Addr) (cl : List (Str × Addr)) (fp : List Addr), JTs (X.blk s H scope (compEnvC scope cl C X.env) fp) G W0 ifs tt mt)
    (he : ∀ (s : Shared) (H : Hp) (C : Addr) (cl : List (Str × Addr)) (fp : List Addr), JE (X.blk s H scope (compEnvC scope cl C X.env) fp) G W0 elt te me) :
    (∀ (σ : L2.St) (H : Hp) (μ : Mu) (l : Loc) (s : Sto), RL G G.K H μ σ l → RS G G.K H μ s → okP G G.K (tLc (iList G.K (tVar i)) g tt te (own.map (·.2)) σ H) (fun c d H' => W c d σ H') H μ (Rp G G.K) (mLcR (own.map (·.2)) i mg mt me l s)) := by
  have kg := (hg X.s_0 X.H_0 0 [] []).sim
  have kt := (ht X.s_0 X.H_0 0 [] []).sim
  have ke := (he X.s_0 X.H_0 0 [] []).sim
  intro σ H μ l s hl hs
  unfold mLcR
  cases e1 : l[i]? with
  | none => trivial
  | some o =>
    cases o with
    | none => trivial
    | some d =>
      obtain ⟨v, h1, h2⟩ := hl.2 i d e1
      cases d <;> first | trivial | skip
      rename_i n
      dsimp only
      cases e2 : s[n]? with
      | none => trivial
      | some o =>
        cases o with
        | dK _ => trivial
        | dT _ => trivial
        | lst ds =>
          dsimp only
          cases h2
          rename_i a ha
          obtain ⟨vs, q1, q2⟩ := hs.at_ n a _ ha e2
          refine lc_runC hk (fun Q q => ⟨.ref a, h1, a, rfl, ⟨vs, SqL.of q1⟩, q _ H μ Grow.refl hs (RIn.list ha)⟩) kg kt ke hl (fun ys s2 => if ys.length ≤ 100000 then .ok (.lst ys) s2 else .stuck) (fun H' μ' s' Da ys us d s2 e g r hD h0 p => ?_) (fun ys s' c s2 e => ?_) (fun ys s' d s2 e => ?_)
          · split at e
            · cases e; exact ⟨μ', lc_frozen hs g r hD h0 p⟩
            · cases e
          · split at e <;> cases e
          · split at e
            · assumption
            · cases e
theorem je_lcR (i : Nat) {x : Str} {ip : Pos} (hc : X.calm = true) (hN : X.N.Nodup) (ok : BlkOk X.N X.env.scope scope own) (hk : Keeps g (own.map (·.2)))
    (hg : ∀ (s : Shared) (H : Hp) (C : Addr) (cl : List (Str × Addr)) (fp : List Addr), JG (X.blk s H scope (compEnvC scope cl C X.env) fp) G W0 tg g mg) (ht : ∀ (s : Shared) (H : Hp) (C : Addr) (cl : List (Str × Addr)) (fp : List Addr), JTs (X.blk s H scope (compEnvC scope cl C X.env) fp) G W0 ifs tt mt)
    (he : ∀ (s : Shared) (H : Hp) (C : Addr) (cl : List (Str × Addr)) (fp : List Addr), JE (X.blk s H scope (compEnvC scope cl C X.env) fp) G W0 elt te me) (hNi : X.N[i]? = some x := by rfl) (hv : Vis X.env.scope x := by first | exact Or.inl rfl | exact Or.inr (Or.inl rfl) | exact Or.inr (Or.inr rfl)) (hd : (x == ("__debug__" : Str)) = false := by decide)
    (hcd : (x == ("__classdict__" : Str)) = false := by decide) (hs : ∀ y, foldedSetIterable (.Name x ip) X.env y = pure y := by intro _; rfl) (hK : X.K = G.K := by rfl) :
    JE X G W (.ListComp elt [⟨tg, .Name x ip, ifs, 0⟩] scope pos) (tLc (iList G.K (tVar i)) g tt te (own.map (·.2))) (mLcR (own.map (·.2)) i mg mt me) :=
  ⟨fun tk => pe_lc hc hN (hK ▸ pi_list (pe_var hNi hv hd hcd)) ok (fun s H C cl fp => (hg s H C cl fp).pe takes0) (fun s H C cl fp => (ht s H C cl fp).pe takes0) (fun s H C cl fp => (he s H C cl fp).pe takes0) hs, lc_simR hk hg ht he⟩
theorem js_setLcR {i : Nat} (j : Nat) {y x : Str} {py ip : Pos} {spos : Pos} (hc : X.calm = true) (hN : X.N.Nodup) (ok : BlkOk X.N X.env.scope scope own) (hk : Keeps g (own.map (·.2)))
    (hg : ∀ (s : Shared) (H : Hp) (C : Addr) (cl : List (Str × Addr)) (fp : List Addr), JG (X.blk s H scope (compEnvC scope cl C X.env) fp) G W0 tg g mg) (ht : ∀ (s : Shared) (H : Hp) (C : Addr) (cl : List (Str × Addr)) (fp : List Addr), JTs (X.blk s H scope (compEnvC scope cl C X.env) fp) G W0 ifs tt mt)
    (he : ∀ (s : Shared) (H : Hp) (C : Addr) (cl : List (Str × Addr)) (fp : List Addr), JE (X.blk s H scope (compEnvC scope cl C X.env) fp) G W0 elt te me)
    (hy : X.N[i]? = some y := by rfl) (hyl : X.env.scope.names.lookup y = some .local := by rfl) (hsw : swapsWith (.ListComp elt [⟨tg, .Name x ip, ifs, 0⟩] scope pos) (some (.Name y py)) spos.line X.env = pure true := by exact sw_true rfl rfl rfl (by decide +kernel))
    (hNi : X.N[j]? = some x := by rfl) (hv : Vis X.env.scope x := by first | exact Or.inl rfl | exact Or.inr (Or.inl rfl) | exact Or.inr (Or.inr rfl)) (hd : (x == ("__debug__" : Str)) = false := by decide)
    (hcd : (x == ("__classdict__" : Str)) = false := by decide) (hs : ∀ z, foldedSetIterable (.Name x ip) X.env z = pure z := by intro _; rfl) (hK : X.K = G.K := by rfl) :
    JS X G W (.Assign [.Name y py] (.ListComp elt [⟨tg, .Name x ip, ifs, 0⟩] scope pos) spos) (tAsg (tLc (iList G.K (tVar j)) g tt te (own.map (·.2))) (gName i)) (mAsg (mLcR (own.map (·.2)) j mg mt me) (mgName i)) :=
  ⟨fun tk _ => ps_setLc hc hN hy hyl hsw (hK ▸ pi_list (pe_var hNi hv hd hcd)) ok (fun s H C cl fp => (hg s H C cl fp).pe takes0) (fun s H C cl fp => (ht s H C cl fp).pe takes0) (fun s H C cl fp => (he s H C cl fp).pe takes0) hs,
    fun σ H μ l s hl hs => okS_of (T := fun Q => tLc (iList G.K (tVar j)) g tt te (own.map (·.2)) σ H fun x H1 => gName i x σ H1 Q) (fun _ => rfl) hl
    (okP.bind (u := fun x H1 Q => gName i x σ H1 Q) (f := fun d s1 => mgName i d l s1) (Rm := RL G G.K) ((lc_simR hk hg ht he) σ H μ l s hl hs) fun x H1 μ1 d s1 g1 r1 p1 => fun Q q => q _ H1 μ1 Grow.refl r1 ((hl.mono g1).set p1))⟩
end
/-- one that changes nothing -/
theorem lcLC_pure {n : Nat} {xs : List D} {tg : MG} {tt : MT} {me : ME} {l : Loc} {s : Sto} (p : D → Bool) (f : D → D) (hs : s[n]? = some (.lst xs)) : ∀ {ds : List D}, (∀ d ∈ ds, ∃ l1, tg d l s = .ok l1 s ∧ tt l1 s = .ok (p d) s ∧ (p d = true → me l1 s = .ok (f d) s)) → lcLC n xs tg tt me ds l s = .ok ((ds.filter p).map f) s
  | [], _ => by simp only [lcLC, if_pos hs, List.filter_nil, List.map_nil]
  | d :: ds, h => by
    obtain ⟨l1, e1, e2, e3⟩ := h d (List.mem_cons_self ..)
    have := lcLC_pure p f hs (ds := ds) fun d hd => h d (List.mem_cons_of_mem _ hd)
    cases hp : p d with
    | true => simp only [lcLC, if_pos hs, e1, e2, hp, e3 hp, R.bind_ok, this, List.filter_cons, if_true, List.map_cons]
    | false => simp only [lcLC, if_pos hs, e1, e2, hp, R.bind_ok, this, List.filter_cons, Bool.false_eq_true, if_false]
end
end DL


namespace DL
open PySem PySem.Spec PyProof.Rows L2

/-! ### plain laws of the layer's functions -/
theorem shaped_int (i : Int) : SeqAt.shaped (.int i) = true := by simp [SeqAt.shaped, PyData.canLay0, PyData.depth]
theorem neD_int (a b : Int) (s : Sto) : neD (.int a) (.int b) s = .ok (.bl (!(a == b))) s := by
  simp [neD, eqB, toPyR, toPy, shaped_int, PyData.eqv]
theorem eqD_int (a b : Int) (s : Sto) : eqD (.int a) (.int b) s = .ok (.bl (a == b)) s := by
  simp [eqD, eqB, toPyR, toPy, shaped_int, PyData.eqv]
theorem addD_int (a b : Int) (s : Sto) : addD (.int a) (.int b) s = .ok (.int (a + b)) s := rfl
theorem fmod_natAbs (a b : Int) (hb : b ≠ 0) : (a.fmod b).natAbs < b.natAbs := by
  rcases Int.lt_or_lt_of_ne hb with h | h
  · have e : a.fmod b = -((-a).fmod (-b)) := by
      rw [Int.neg_fmod_neg, Int.neg_neg]
    have h1 : (0 : Int) < -b := by omega
    have h2 := Int.fmod_lt_of_pos (-a) h1
    have h3 := Int.fmod_nonneg_of_pos (-a) h1
    omega
  · have h2 := Int.fmod_lt_of_pos a h
    have h3 := Int.fmod_nonneg_of_pos a h
    omega
theorem gcd_fmod (a b : Int) : Int.gcd b (a.fmod b) = Int.gcd a b := by
  have e : a.fmod b = a - b * (a.fdiv b) := by
    have := Int.fmod_add_mul_fdiv a b
    omega
  rw [e, Int.gcd_comm a b]
  have h := @Int.gcd_sub_mul_left_right b a (a.fdiv b)
  rw [Int.mul_comm] at *
  first | exact h | (rw [Int.mul_comm]; exact h) | (rw [Int.mul_comm] at h; exact h)
/-- the while of Euclid, at two places -/
theorem euclid_while {i j : Nat} (hij : i ≠ j) : ∀ (n : Nat) (a b : Int) (l : Loc) (s : Sto), b.natAbs ≤ n → l[i]? = some (some (.int a)) → l[j]? = some (some (.int b)) →
    ∃ g : Int, g.natAbs = Int.gcd a b ∧ (0 ≤ a → 0 ≤ b → 0 ≤ g) ∧ mWhile (mTest (mOp neD (mVar j) (mC (.int 0)))) (mPar i j (mCons (mVar j) (mCons (mOp modD (mVar i) (mVar j)) mNil))) l s = .nx ((l.set i (some (.int g))).set j (some (.int 0))) s := by
  intro n
  induction n with
  | zero =>
    intro a b l s hn hi hj
    have hb : b = 0 := by omega
    subst hb
    refine ⟨a, by simp, fun h _ => h, ?_⟩
    rw [mWhile_eq]
    simp only [mTest, mOp, mVar, hj, mC, R.bind_ok, neD_int]
    have e1 : l.set i (some (.int a)) = l := by
      apply List.ext_getElem?
      intro k
      by_cases h : i = k
      · subst h
        rw [List.getElem?_set_self (List.getElem?_eq_some_iff.mp hi).1, hi]
      · rw [List.getElem?_set_ne h]
    have e2 : l.set j (some (.int 0)) = l := by
      apply List.ext_getElem?
      intro k
      by_cases h : j = k
      · subst h
        rw [List.getElem?_set_self (List.getElem?_eq_some_iff.mp hj).1, hj]
      · rw [List.getElem?_set_ne h]
    rw [e1, e2]
    rfl
  | succ n ih =>
    intro a b l s hn hi hj
    by_cases hb : b = 0
    · obtain ⟨g, h1, h2, h3⟩ := ih a b l s (by omega) hi hj
      exact ⟨g, h1, h2, h3⟩
    · have hlt := fmod_natAbs a b hb
      have hli : i < l.length := (List.getElem?_eq_some_iff.mp hi).1
      have hlj : j < l.length := (List.getElem?_eq_some_iff.mp hj).1
      obtain ⟨g, h1, h2, h3⟩ := ih b (a.fmod b) ((l.set i (some (.int b))).set j (some (.int (a.fmod b)))) s (by omega)
        (by rw [List.getElem?_set_ne (Ne.symm hij), List.getElem?_set_self hli]) (by rw [List.getElem?_set_self (by rw [List.length_set]; exact hlj)])
      refine ⟨g, by rw [h1, gcd_fmod], fun ha hb' => h2 hb' (Int.fmod_nonneg_of_pos a (by omega)), ?_⟩
      rw [mWhile_eq]
      have hne : (!(b == 0)) = true := by simp [hb]
      simp only [mTest, mOp, mVar, hj, mC, R.bind_ok, neD_int, hne]
      simp only [mPar, mCons, mVar, hj, hi, mOp, R.bind_ok, modD, if_neg hb, mNil, toOut]
      rw [h3]
      congr 1
      apply List.ext_getElem?
      intro k
      by_cases hk : j = k
      · subst hk
        rw [List.getElem?_set_self (by simpa using hlj), List.getElem?_set_self (by simpa using hlj)]
      · rw [List.getElem?_set_ne hk, List.getElem?_set_ne hk]
        by_cases hk2 : i = k
        · subst hk2
          rw [List.getElem?_set_self (by simpa using hli), List.getElem?_set_self (by simpa using hli)]
        · rw [List.getElem?_set_ne hk2, List.getElem?_set_ne hk2, List.getElem?_set_ne hk, List.getElem?_set_ne hk2]

/-! ### fractions -/
/-- a fraction as the program has it -/
def fr (x : Rat) : D := .tup [.int x.num, .int (x.den : Int)]
/-- of so many bits at most -/
def Sm (N : Nat) (x : Rat) : Prop := x.num.natAbs < 2 ^ N ∧ x.den < 2 ^ N
theorem log2_lt {n N : Nat} (h : n < 2 ^ N) (hN : 0 < N) : n.log2 < N := by
  rcases Nat.eq_zero_or_pos n with h0 | hp
  · subst h0; simpa using hN
  · exact (Nat.log2_lt (Nat.ne_of_gt hp)).mpr h
theorem mulOk_of {i j : Int} {a b : Nat} (ha : i.natAbs < 2 ^ a) (hb : j.natAbs < 2 ^ b) (h0 : 0 < a) (h1 : 0 < b) (h : a + b ≤ 1000000) : mulOk i j = true := by
  unfold mulOk
  have x := log2_lt ha h0
  have y := log2_lt hb h1
  simp only [Bool.or_eq_true, decide_eq_true_eq]
  right
  omega
theorem mulOk_l {i j : Int} (h : i.natAbs < 2 ^ 64) : mulOk i j = true := by
  unfold mulOk; simp only [Bool.or_eq_true, decide_eq_true_eq]; exact .inl (.inl h)
theorem mulOk_r {i j : Int} (h : j.natAbs < 2 ^ 64) : mulOk i j = true := by
  unfold mulOk; simp only [Bool.or_eq_true, decide_eq_true_eq]; exact .inl (.inr h)
theorem divOk_of {j : Int} {b : Nat} (h0 : j ≠ 0) (hb : j.natAbs < 2 ^ b) (h1 : 0 < b) (h : b ≤ 9000) : divOk j = true := by
  unfold divOk
  have y := log2_lt hb h1
  simp only [Bool.and_eq_true, decide_eq_true_eq]
  exact ⟨h0, by omega⟩
theorem natAbs_mul_lt {i j : Int} {a b : Nat} (ha : i.natAbs < 2 ^ a) (hb : j.natAbs < 2 ^ b) : (i * j).natAbs < 2 ^ (a + b) := by
  rw [Int.natAbs_mul, Nat.pow_add]
  exact Nat.mul_lt_mul'' ha hb
theorem natAbs_add_lt {i j : Int} {a : Nat} (ha : i.natAbs < 2 ^ a) (hb : j.natAbs < 2 ^ a) : (i + j).natAbs < 2 ^ (a + 1) := by
  have : 2 ^ (a + 1) = 2 ^ a + 2 ^ a := by rw [Nat.pow_succ]; omega
  omega
theorem natAbs_sub_lt {i j : Int} {a : Nat} (ha : i.natAbs < 2 ^ a) (hb : j.natAbs < 2 ^ a) : (i - j).natAbs < 2 ^ (a + 1) := by
  have : 2 ^ (a + 1) = 2 ^ a + 2 ^ a := by rw [Nat.pow_succ]; omega
  omega
/-- p divided by q, by the greatest common divisor -/
theorem divInt_num {p q : Int} (hq : 0 < q) : (Rat.divInt p q).num = p.fdiv (Int.gcd p q) := by
  rw [Rat.num_divInt, Int.sign_eq_one_of_pos hq, Int.one_mul, Int.gcd_comm, Int.fdiv_eq_ediv_of_nonneg _ (by omega)]
theorem divInt_den {p q : Int} (hq : 0 < q) : ((Rat.divInt p q).den : Int) = q.fdiv (Int.gcd p q) := by
  rw [Rat.den_divInt, if_neg (by omega), Int.gcd_comm, Int.fdiv_eq_ediv_of_nonneg _ (by omega)]
  have : ((q.natAbs : Nat) : Int) = q := by omega
  rw [Int.natCast_ediv, this]
theorem divInt_sm {p q : Int} {N : Nat} (hp : p.natAbs < 2 ^ N) (hq : q.natAbs < 2 ^ N) (h0 : q ≠ 0) : Sm N (Rat.divInt p q) := by
  have key : ∀ {p q : Int}, p.natAbs < 2 ^ N → q.natAbs < 2 ^ N → 0 < q → Sm N (Rat.divInt p q) := fun {p q} hp hq h0 => by
    have hg : 0 < Int.gcd p q := Int.gcd_pos_of_ne_zero_right _ (by omega)
    refine ⟨?_, ?_⟩
    · rw [divInt_num h0, Int.fdiv_eq_ediv_of_nonneg _ (by omega), Int.natAbs_ediv_of_dvd (Int.gcd_dvd_left ..)]
      exact Nat.lt_of_le_of_lt (Nat.div_le_self _ _) hp
    · have := divInt_den (p := p) h0
      rw [Int.fdiv_eq_ediv_of_nonneg _ (by omega)] at this
      have h2 : q / (Int.gcd p q : Int) ≤ q := Int.ediv_le_self _ (by omega)
      omega
  rcases Int.lt_or_lt_of_ne h0 with h | h
  · rw [← Rat.neg_divInt_neg]
    exact key (by rw [Int.natAbs_neg]; exact hp) (by rw [Int.natAbs_neg]; exact hq) (by omega)
  · exact key hp hq h
theorem Sm.mono {x : Rat} {M N : Nat} (h : Sm M x) (hm : M ≤ N) : Sm N x := ⟨Nat.lt_of_lt_of_le h.1 (Nat.pow_le_pow_right (by decide) hm), Nat.lt_of_lt_of_le h.2 (Nat.pow_le_pow_right (by decide) hm)⟩
theorem add_divInt (x y : Rat) : x + y = Rat.divInt (x.num * y.den + y.num * x.den) (x.den * y.den) := by
  rw [Rat.add_def', ← Rat.divInt_ofNat]; rfl
theorem sub_divInt (x y : Rat) : x - y = Rat.divInt (x.num * y.den - y.num * x.den) (x.den * y.den) := by
  rw [Rat.sub_def', ← Rat.divInt_ofNat]; rfl
theorem mul_divInt (x y : Rat) : x * y = Rat.divInt (x.num * y.num) (x.den * y.den) := by
  rw [Rat.mul_def', ← Rat.divInt_ofNat]; rfl
theorem div_divInt (x y : Rat) : x / y = Rat.divInt (x.num * y.den) (x.den * y.num) := by
  rw [Rat.div_def, Rat.inv_def]
  conv => lhs; lhs; rw [← Rat.num_divInt_den x]
  rw [Rat.divInt_mul_divInt]
theorem num_lt {x : Rat} {N : Nat} (h : Sm N x) : x.num.natAbs < 2 ^ N := h.1
theorem den_lt {x : Rat} {N : Nat} (h : Sm N x) : (x.den : Int).natAbs < 2 ^ N := by have := h.2; omega
end DL


namespace DL
open PySem PySem.Spec PyProof.Rows L2

/-! ### plain values: none, ints, lists and tuples of them -/
def plN : Nat → D → Bool
  | 0, _ => false
  | _ + 1, .non => true
  | _ + 1, .int _ => true
  | _ + 1, .str x => decide (x.length ≤ 100000) && PyData.strOk x
  | k + 1, .tup xs => xs.all (plN k)
  | k + 1, .lst xs => xs.all (plN k)
  | _ + 1, _ => false
mutual
def py : D → PyData
  | .int i => .int i
  | .str x => .str x
  | .tup xs => .tuple (pyA xs)
  | .lst xs => .list (pyA xs)
  | _ => .none
def pyA : List D → List PyData
  | [] => []
  | x :: xs => py x :: pyA xs
end
theorem plN_toPy (s : Sto) : ∀ (k : Nat) (d : D), plN k d = true → toPy s d = some (py d) ∧ toPyR s d = some (py d) ∧ (py d).canLay0 = true ∧ (py d).depth ≤ k := by
  intro k
  induction k with
  | zero => intro d h; cases h
  | succ k ih =>
    have key : ∀ xs : List D, xs.all (plN k) = true → toPyA s xs = some (pyA xs) ∧ PyData.canLayAll0 (pyA xs) = true ∧ PyData.depthAll (pyA xs) ≤ k := by
      intro xs
      induction xs with
      | nil => intro _; exact ⟨by simp [toPyA, pyA], by simp [PyData.canLayAll0, pyA], by simp [PyData.depthAll, pyA]⟩
      | cons x xs ih2 =>
        intro h
        simp only [List.all_cons, Bool.and_eq_true] at h
        obtain ⟨a, _, b, c⟩ := ih x h.1
        obtain ⟨a', b', c'⟩ := ih2 h.2
        refine ⟨by simp [toPyA, pyA, a, a'], by simp [PyData.canLayAll0, pyA, b, b'], ?_⟩
        simp only [PyData.depthAll, pyA]
        omega
    intro d h
    cases d with
    | non => exact ⟨by simp [toPy, py], by simp [toPyR, toPy, py], by simp [py, PyData.canLay0], by simp [py, PyData.depth]⟩
    | int i => exact ⟨by simp [toPy, py], by simp [toPyR, toPy, py], by simp [py, PyData.canLay0], by simp [py, PyData.depth]⟩
    | str x =>
      simp only [plN, Bool.and_eq_true, decide_eq_true_eq] at h
      exact ⟨by simp [toPy, py, h.1], by simp [toPyR, toPy, py, h.1], by simp [py, PyData.canLay0, h.2], by simp [py, PyData.depth]⟩
    | tup xs =>
      obtain ⟨a, b, c⟩ := key xs h
      exact ⟨by simp [toPy, py, a], by simp [toPyR, toPy, py, a], by simp [py, PyData.canLay0, b], by simp only [py, PyData.depth]; omega⟩
    | lst xs =>
      obtain ⟨a, b, c⟩ := key xs h
      exact ⟨by simp [toPy, py, a], by simp [toPyR, toPy, py, a], by simp [py, PyData.canLay0, b], by simp only [py, PyData.depth]; omega⟩
    | _ => cases h
theorem py_eqv : ∀ (k : Nat) (d e : D), plN k d = true → plN k e = true → (PyData.eqv (py d) (py e) = true ↔ d = e) := by
  intro k
  induction k with
  | zero => intro d e h; cases h
  | succ k ih =>
    have key : ∀ xs ys : List D, xs.all (plN k) = true → ys.all (plN k) = true → (PyData.eqvAll (pyA xs) (pyA ys) = true ↔ xs = ys) := by
      intro xs
      induction xs with
      | nil =>
        intro ys _ _
        cases ys <;> simp [pyA, PyData.eqvAll]
      | cons x xs ih2 =>
        intro ys h g
        cases ys with
        | nil => simp [pyA, PyData.eqvAll]
        | cons y ys =>
          simp only [List.all_cons, Bool.and_eq_true] at h g
          simp only [pyA, PyData.eqvAll, Bool.and_eq_true, ih x y h.1 g.1, ih2 ys h.2 g.2, List.cons.injEq]
    intro d e h g
    cases d <;> first | cases h | skip
    all_goals cases e <;> first | cases g | skip
    all_goals simp only [py, PyData.eqv, beq_iff_eq, D.int.injEq, D.str.injEq, D.tup.injEq, D.lst.injEq, reduceCtorEq, Bool.false_eq_true]
    all_goals first | exact key _ _ h g | simp
open Classical in
theorem eqB_pl (s : Sto) {k : Nat} {d e : D} (hd : plN k d = true) (he : plN k e = true) (hk : k ≤ 64) : eqB s d e = some (decide (d = e)) := by
  obtain ⟨_, a1, b1, c1⟩ := plN_toPy s k d hd
  obtain ⟨_, a2, b2, c2⟩ := plN_toPy s k e he
  have s1 : SeqAt.shaped (py d) = true := by simp only [SeqAt.shaped, b1, Bool.true_and, decide_eq_true_eq]; omega
  have s2 : SeqAt.shaped (py e) = true := by simp only [SeqAt.shaped, b2, Bool.true_and, decide_eq_true_eq]; omega
  simp only [eqB, a1, a2, s1, s2, and_self, if_true]
  congr 1
  have := py_eqv k d e hd he
  by_cases h : d = e
  · rw [decide_eq_true h]; exact this.mpr h
  · rw [decide_eq_false h]
    cases h2 : PyData.eqv (py d) (py e) with
    | true => exact absurd (this.mp h2) h
    | false => rfl
open Classical in
theorem eqD_pl {s : Sto} (k : Nat) {d e : D} (hd : plN k d = true) (he : plN k e = true) (hk : k ≤ 64) : eqD d e s = .ok (.bl (decide (d = e))) s := by
  simp only [eqD, eqB_pl s hd he hk]
open Classical in
theorem neD_pl {s : Sto} (k : Nat) {d e : D} (hd : plN k d = true) (he : plN k e = true) (hk : k ≤ 64) : neD d e s = .ok (.bl (!decide (d = e))) s := by
  simp only [neD, eqB_pl s hd he hk]
theorem eqD_yes {s : Sto} (k : Nat) {d e : D} (h : d = e) (hd : plN k d = true) (hk : k ≤ 64) : eqD d e s = .ok (.bl true) s := by
  subst h; rw [eqD_pl k hd hd hk]; simp
theorem eqD_no {s : Sto} (k : Nat) {d e : D} (h : d ≠ e) (hd : plN k d = true) (he : plN k e = true) (hk : k ≤ 64) : eqD d e s = .ok (.bl false) s := by
  rw [eqD_pl k hd he hk]; simp [h]
theorem neD_no {s : Sto} (k : Nat) {d e : D} (h : d = e) (hd : plN k d = true) (hk : k ≤ 64) : neD d e s = .ok (.bl false) s := by
  subst h; rw [neD_pl k hd hd hk]; simp
theorem neD_yes {s : Sto} (k : Nat) {d e : D} (h : d ≠ e) (hd : plN k d = true) (he : plN k e = true) (hk : k ≤ 64) : neD d e s = .ok (.bl true) s := by
  rw [neD_pl k hd he hk]; simp [h]
theorem plN_mono : ∀ {k : Nat} {d : D}, plN k d = true → ∀ {j : Nat}, k ≤ j → plN j d = true
  | 0, _, h, _, _ => by cases h
  | k + 1, d, h, j, hj => by
    obtain ⟨j, rfl⟩ : ∃ j', j = j' + 1 := ⟨j - 1, by omega⟩
    cases d with
    | non => rfl
    | int i => rfl
    | str x => exact h
    | tup xs =>
      simp only [plN, List.all_eq_true] at h ⊢
      exact fun x hx => plN_mono (h x hx) (by omega)
    | lst xs =>
      simp only [plN, List.all_eq_true] at h ⊢
      exact fun x hx => plN_mono (h x hx) (by omega)
    | _ => cases h
theorem frz_pl (s : Sto) (n : Nat) : ∀ (k : Nat) (d : D), plN k d = true → ∀ j, k ≤ j → frz s n j d = some d := by
  intro k
  induction k with
  | zero => intro d h; cases h
  | succ k ih =>
    intro d h j hj
    obtain ⟨j, rfl⟩ : ∃ j', j = j' + 1 := ⟨j - 1, by omega⟩
    have key : ∀ xs : List D, xs.all (plN k) = true → frzA (frz s n j) xs = some xs := by
      intro xs
      induction xs with
      | nil => intro _; rfl
      | cons x xs ih2 =>
        intro h
        simp only [List.all_cons, Bool.and_eq_true] at h
        simp only [frzA, ih x h.1 j (by omega), ih2 h.2]
    cases d with
    | non => rfl
    | int i => rfl
    | str x => rfl
    | tup xs => simp only [frz, key xs h, Option.map_some]
    | lst xs => simp only [frz, key xs h, Option.map_some]
    | _ => cases h
theorem clD_pl (n : Nat) : ∀ (k : Nat) (d : D), plN k d = true → clD n d = true := by
  intro k
  induction k with
  | zero => intro d h; cases h
  | succ k ih =>
    have key : ∀ xs : List D, xs.all (plN k) = true → clA n xs = true := by
      intro xs
      induction xs with
      | nil => intro _; simp [clA]
      | cons x xs ih2 =>
        intro h
        simp only [List.all_cons, Bool.and_eq_true] at h
        simp only [clA, ih x h.1, ih2 h.2, Bool.and_self]
    intro d h
    cases d with
    | non => simp [clD]
    | int i => simp [clD]
    | str x => simp [clD]
    | tup xs => simp only [clD]; exact key xs h
    | lst xs => simp only [clD]; exact key xs h
    | _ => cases h
theorem clA_pl (n k : Nat) : ∀ xs : List D, xs.all (plN k) = true → clA n xs = true := by
  intro xs
  induction xs with
  | nil => intro _; simp [clA]
  | cons x xs ih2 =>
    intro h
    simp only [List.all_cons, Bool.and_eq_true] at h
    simp only [clA, clD_pl n k x h.1, ih2 h.2, Bool.and_self]
/-- a store of plain values -/
def plO : O → Bool
  | .lst xs => xs.all (plN 20)
  | .dK kvs => (kvs.map (·.2)).all (plN 20)
  | .dT kvs => (kvs.map (·.2)).all (plN 20)
def plS (s : Sto) : Prop := ∀ o ∈ s, plO o = true
theorem plS_cl {s : Sto} (h : plS s) (n : Nat) : s.all (clO n) = true := by
  rw [List.all_eq_true]
  intro o ho
  have hx := h o ho
  cases o with
  | lst xs => exact clA_pl n _ _ hx
  | dK xs => exact clA_pl n _ _ hx
  | dT xs => exact clA_pl n _ _ hx
theorem plS_app {s t : Sto} (h : plS s) (g : plS t) : plS (s ++ t) := fun o ho => by
  rcases List.mem_append.mp ho with ho | ho
  · exact h o ho
  · exact g o ho
theorem plS_nil : plS [] := fun o ho => by cases ho
theorem plS_one {o : O} (h : plO o = true) : plS [o] := fun q hq => by rw [List.mem_singleton] at hq; rw [hq]; exact h
theorem backF_pl {base t : Sto} {d : D} (hb : plS base) (hd : plN 12 d = true) : backF base.length (.ok d (base ++ t)) = .ok d base := by
  by_cases h : t = []
  · subst h; simp only [List.append_nil, backF, if_true]
  · have : (base ++ t).length ≠ base.length := by
      rw [List.length_append]
      have := List.length_pos_iff.mpr h
      omega
    simp only [backF, if_neg this, frz_pl _ _ _ _ hd 12 (Nat.le_refl _), List.take_left, plS_cl hb, if_true]
theorem backF_pl' {n : Nat} {base t : Sto} {d : D} (hn : n = base.length) (hb : plS base) (hd : plN 12 d = true) : backF n (.ok d (base ++ t)) = .ok d base := by
  subst hn; exact backF_pl hb hd
theorem backF_eq {n : Nat} {s : Sto} {d : D} (hn : s.length = n) : backF n (.ok d s) = .ok d s := by
  simp only [backF, hn, if_true]

/-! ### loops -/
theorem forL_inv {mg : MG} {mb : MS} {ds : List D} (P : Nat → Loc → Sto → Prop)
    (step : ∀ k d l s, ds[k]? = some d → P k l s → ∃ l1 s1, mg d l s = .ok l1 s1 ∧ ∃ l2 s2, mb l1 s1 = .nx l2 s2 ∧ P (k + 1) l2 s2)
    {l : Loc} {s : Sto} (h : P 0 l s) : ∃ l' s', forL mg mb ds l s = .nx l' s' ∧ P ds.length l' s' := by
  induction ds generalizing P l s with
  | nil => exact ⟨l, s, rfl, h⟩
  | cons d ds ih =>
    obtain ⟨l1, s1, e1, l2, s2, e2, h2⟩ := step 0 d l s rfl h
    obtain ⟨l3, s3, e3, h3⟩ := ih (fun k => P (k + 1)) (fun k d' l s hk hp => step (k + 1) d' l s (by simpa using hk) hp) h2
    exact ⟨l3, s3, by simp only [forL, e1, e2, e3], h3⟩
/-- a loop that looks for the first -/
theorem forL_find {mg : MG} {mb : MS} {ds : List D} (P : Loc → Prop) (s : Sto) (f : D → Option D)
    (step : ∀ d l, d ∈ ds → P l → ∃ l1, mg d l s = .ok l1 s ∧ match f d with
      | some r => mb l1 s = .rt r s
      | none => ∃ l2, (mb l1 s = .nx l2 s ∨ mb l1 s = .ct l2 s) ∧ P l2)
    {l : Loc} (h : P l) : match ds.findSome? f with
      | some r => forL mg mb ds l s = .rt r s
      | none => ∃ l', forL mg mb ds l s = .nx l' s ∧ P l' := by
  induction ds generalizing l with
  | nil => exact ⟨l, rfl, h⟩
  | cons d ds ih =>
    obtain ⟨l1, e1, h1⟩ := step d l (List.mem_cons_self ..) h
    rw [List.findSome?_cons]
    cases hf : f d with
    | some r =>
      rw [hf] at h1
      simp only [forL, e1, h1]
    | none =>
      rw [hf] at h1
      obtain ⟨l2, e2, h2⟩ := h1
      have := ih (fun d l hd hp => step d l (List.mem_cons_of_mem _ hd) hp) h2
      have e3 : forL mg mb (d :: ds) l s = forL mg mb ds l2 s := by
        rcases e2 with e2 | e2 <;> simp only [forL, e1, e2]
      dsimp only
      rw [e3]
      exact this
/-- a comprehension that changes nothing -/
theorem lcL_pure {tg : MG} {tt : MT} {me : ME} {l : Loc} {s : Sto} (f : D → D) : ∀ {ds : List D}, (∀ d ∈ ds, ∃ l1, tg d l s = .ok l1 s ∧ tt l1 s = .ok true s ∧ me l1 s = .ok (f d) s) → lcL tg tt me ds l s = .ok (ds.map f) s
  | [], _ => rfl
  | d :: ds, h => by
    obtain ⟨l1, e1, e2, e3⟩ := h d (List.mem_cons_self ..)
    have := lcL_pure f (ds := ds) fun d hd => h d (List.mem_cons_of_mem _ hd)
    simp only [lcL, e1, e2, e3, R.bind_ok, this, List.map_cons]
/-- .. with a test -/
theorem lcL_filter {tg : MG} {tt : MT} {me : ME} {l : Loc} {s : Sto} (p : D → Bool) (f : D → D) : ∀ {ds : List D}, (∀ d ∈ ds, ∃ l1, tg d l s = .ok l1 s ∧ tt l1 s = .ok (p d) s ∧ (p d = true → me l1 s = .ok (f d) s)) → lcL tg tt me ds l s = .ok ((ds.filter p).map f) s
  | [], _ => rfl
  | d :: ds, h => by
    obtain ⟨l1, e1, e2, e3⟩ := h d (List.mem_cons_self ..)
    have := lcL_filter p f (ds := ds) fun d hd => h d (List.mem_cons_of_mem _ hd)
    cases hp : p d with
    | true =>
      simp only [lcL, e1, e2, hp, e3 hp, R.bind_ok, this, List.filter_cons, if_true, List.map_cons]
    | false =>
      simp only [lcL, e1, e2, hp, R.bind_ok, this, List.filter_cons, Bool.false_eq_true, if_false]
/-- .. that makes one object after another -/
theorem lcL_new {tg : MG} {tt : MT} {me : ME} {l : Loc} (f : D → O) : ∀ {ds : List D} (s : Sto), (∀ d ∈ ds, ∀ t, ∃ l1, tg d l (s ++ t) = .ok l1 (s ++ t) ∧ tt l1 (s ++ t) = .ok true (s ++ t) ∧ me l1 (s ++ t) = .ok (.ref (s ++ t).length) (s ++ t ++ [f d])) →
    lcL tg tt me ds l s = .ok ((List.range ds.length).map fun i => .ref (s.length + i)) (s ++ ds.map f)
  | [], s, _ => by simp [lcL]
  | d :: ds, s, h => by
    obtain ⟨l1, e1, e2, e3⟩ := h d (List.mem_cons_self ..) []
    rw [List.append_nil] at e1 e2 e3
    have := lcL_new f (ds := ds) (s ++ [f d]) fun d' hd t => by
      have := h d' (List.mem_cons_of_mem _ hd) ([f d] ++ t)
      rwa [← List.append_assoc] at this
    simp only [lcL, e1, e2, e3, R.bind_ok, this, List.length_append, List.length_cons, List.length_nil, Nat.zero_add, List.range_succ_eq_map, List.map_cons, List.map_map, Nat.add_zero, List.append_assoc, List.singleton_append]
    congr 2
    apply List.map_congr_left
    intro i _
    simp only [Function.comp, List.length_nil, Nat.zero_add]
    congr 1
    omega
theorem rangeD_mem {lo : Int} {n : Nat} {d : D} (h : d ∈ rangeD lo n) : ∃ i : Nat, i < n ∧ d = .int (lo + i) := by
  unfold rangeD at h
  obtain ⟨i, hi, rfl⟩ := List.mem_map.mp h
  exact ⟨i, List.mem_range.mp hi, rfl⟩
theorem rangeD_get {lo : Int} {n k : Nat} {d : D} (h : (rangeD lo n)[k]? = some d) : k < n ∧ d = .int (lo + k) := by
  unfold rangeD at h
  rw [List.getElem?_map] at h
  cases e : (List.range n)[k]? with
  | none => rw [e] at h; cases h
  | some i =>
    rw [e] at h
    obtain ⟨h1, h2⟩ := List.getElem?_eq_some_iff.mp e
    rw [List.getElem_range] at h2
    subst h2
    rw [List.length_range] at h1
    simp only [Option.map_some, Option.some.injEq] at h
    exact ⟨h1, h.symm⟩
theorem rangeD_len {lo : Int} {n : Nat} : (rangeD lo n).length = n := by simp [rangeD]
theorem findRange {lo : Int} {n : Nat} (f : Nat → Option D) : (rangeD lo n).findSome? (fun d => match d with | .int i => f (i - lo).toNat | _ => none) = (List.range n).findSome? f := by
  have : ∀ ds : List Nat, (ds.map fun (i : Nat) => D.int (lo + (i : Int))).findSome? (fun d => match d with | .int i => f (i - lo).toNat | _ => none) = ds.findSome? f := by
    intro ds
    induction ds with
    | nil => rfl
    | cons d ds ih =>
      have : (lo + (d : Int) - lo).toNat = d := by omega
      simp only [List.map_cons, List.findSome?_cons, this, ih]
  exact this _
/-- a loop over numbers that looks for the first -/
theorem forL_look {mg : MG} {mb : MS} {lo : Int} {n : Nat} (P : Loc → Prop) (s : Sto) (f : Nat → Option D)
    (step : ∀ (i : Nat) l, i < n → P l → ∃ l1, mg (.int (lo + i)) l s = .ok l1 s ∧ (∀ r, f i = some r → mb l1 s = .rt r s) ∧ (f i = none → ∃ l2, mb l1 s = .nx l2 s ∧ P l2))
    {l : Loc} (h : P l) : (∀ r, (List.range n).findSome? f = some r → forL mg mb (rangeD lo n) l s = .rt r s) ∧ ((List.range n).findSome? f = none → ∃ l', forL mg mb (rangeD lo n) l s = .nx l' s ∧ P l') := by
  have key := forL_find (mg := mg) (mb := mb) (ds := rangeD lo n) P s (fun d => match d with | .int i => f (i - lo).toNat | _ => none) (fun d l hd hp => by
    obtain ⟨i, hi, rfl⟩ := rangeD_mem hd
    obtain ⟨l1, e1, a, b⟩ := step i l hi hp
    refine ⟨l1, e1, ?_⟩
    have : (lo + (i : Int) - lo).toNat = i := by omega
    dsimp only
    rw [this]
    cases hf : f i with
    | some r => exact a r hf
    | none =>
      obtain ⟨l2, e2, h2⟩ := b hf
      exact ⟨l2, .inl e2, h2⟩) h
  rw [findRange] at key
  cases hf : (List.range n).findSome? f with
  | some r =>
    rw [hf] at key
    exact ⟨fun _ e => (by cases e; exact key), fun e => (by cases e)⟩
  | none =>
    rw [hf] at key
    exact ⟨fun _ e => (by cases e), fun _ => key⟩
theorem intB_small {i : Int} (h1 : -1000000 ≤ i) (h2 : i ≤ 1000000) : intB i = true := by
  have a : -(2 ^ 62) ≤ i := by
    have : (-(2 ^ 62) : Int) ≤ -1000000 := by decide
    exact Int.le_trans this h1
  have b : i < 2 ^ 62 := by
    have : (1000000 : Int) < 2 ^ 62 := by decide
    exact Int.lt_of_le_of_lt h2 this
  simp only [intB, a, b, and_self, decide_true]

/-! ### rows of numbers -/
def rowD (n : Nat) (f : Nat → Rat) : List D := (List.range n).map fun j => fr (f j)
def matS (n m : Nat) (M : Nat → Nat → Rat) : Sto := (List.range n).map fun i => .lst (rowD m (M i))
def updM (M : Nat → Nat → Rat) (i j : Nat) (v : Rat) : Nat → Nat → Rat := fun a b => if a = i ∧ b = j then v else M a b
theorem rowD_len {n : Nat} {f : Nat → Rat} : (rowD n f).length = n := by simp [rowD]
theorem rowD_get {n j : Nat} {f : Nat → Rat} (h : j < n) : (rowD n f)[j]? = some (fr (f j)) := by simp [rowD, h]
theorem matS_len {n m : Nat} {M : Nat → Nat → Rat} : (matS n m M).length = n := by simp [matS]
theorem matS_get {n m i : Nat} {M : Nat → Nat → Rat} (h : i < n) : (matS n m M)[i]? = some (.lst (rowD m (M i))) := by simp [matS, h]
theorem ixN_of {n j : Nat} (h : j < n) : ixN n (j : Int) = some j := by
  unfold ixN
  simp [h]
theorem atI_of {α : Type} {xs : List α} {j : Nat} {v : α} (h : xs[j]? = some v) : atI xs (j : Int) = some v := by
  unfold atI
  have := (List.getElem?_eq_some_iff.mp h).1
  rw [ixN_of this]
  exact h
theorem rowD_congr {n : Nat} {f g : Nat → Rat} (h : ∀ j, j < n → f j = g j) : rowD n f = rowD n g := by
  unfold rowD
  apply List.map_congr_left
  intro j hj
  rw [h j (List.mem_range.mp hj)]
theorem matS_congr {n m : Nat} {M N : Nat → Nat → Rat} (h : ∀ i j, i < n → j < m → M i j = N i j) : matS n m M = matS n m N := by
  unfold matS
  apply List.map_congr_left
  intro i hi
  rw [rowD_congr fun j hj => h i j (List.mem_range.mp hi) hj]
theorem rowD_set {n j : Nat} {f : Nat → Rat} {v : Rat} : (rowD n f).set j (fr v) = rowD n (fun b => if b = j then v else f b) := by
  apply List.ext_getElem?
  intro k
  by_cases hk : k < n
  · rw [rowD_get hk]
    by_cases h : j = k
    · subst h
      rw [List.getElem?_set_self (by rw [rowD_len]; exact hk), if_pos rfl]
    · rw [List.getElem?_set_ne h, rowD_get hk, if_neg (Ne.symm h)]
  · rw [List.getElem?_eq_none (by rw [List.length_set, rowD_len]; omega), List.getElem?_eq_none (by rw [rowD_len]; omega)]
theorem matS_set {n m i j : Nat} {M : Nat → Nat → Rat} {v : Rat} (hi : i < n) : (matS n m M).set i (.lst ((rowD m (M i)).set j (fr v))) = matS n m (updM M i j v) := by
  apply List.ext_getElem?
  intro k
  by_cases hk : k < n
  · rw [matS_get hk]
    by_cases h : i = k
    · subst h
      rw [List.getElem?_set_self (by rw [matS_len]; exact hk), rowD_set]
      congr 2
      apply rowD_congr
      intro b _
      simp only [updM, true_and]
    · rw [List.getElem?_set_ne h, matS_get hk]
      congr 2
      apply rowD_congr
      intro b _
      simp only [updM, Ne.symm h, false_and, if_false]
  · rw [List.getElem?_eq_none (by rw [List.length_set, matS_len]; omega), List.getElem?_eq_none (by rw [matS_len]; omega)]
theorem ix_mat {base : Sto} {n m i j : Nat} {M : Nat → Nat → Rat} (hi : i < n) (hj : j < m) : ixD (.ref (base.length + i)) (.int j) (base ++ matS n m M) = .ok (fr (M i j)) (base ++ matS n m M) := by
  have e : (base ++ matS n m M)[base.length + i]? = some (.lst (rowD m (M i))) := by
    rw [List.getElem?_append_right (by omega), Nat.add_sub_cancel_left, matS_get hi]
  simp only [ixD, rdS, e, atI_of (rowD_get hj)]
theorem set_mat {base : Sto} {n m i j : Nat} {M : Nat → Nat → Rat} {v : Rat} (hi : i < n) (hj : j < m) : setD (.ref (base.length + i)) (.int j) (fr v) (base ++ matS n m M) = .ok () (base ++ matS n m (updM M i j v)) := by
  have e : (base ++ matS n m M)[base.length + i]? = some (.lst (rowD m (M i))) := by
    rw [List.getElem?_append_right (by omega), Nat.add_sub_cancel_left, matS_get hi]
  simp only [setD, e, rowD_len, ixN_of hj]
  rw [List.set_append_right _ _ (by omega), Nat.add_sub_cancel_left, matS_set hi]
/-- the references to the rows -/
def refsD (b n : Nat) : D := .lst ((List.range n).map fun i => .ref (b + i))
theorem ix_refs {b n i : Nat} (s : Sto) (hi : i < n) : ixD (refsD b n) (.int i) s = .ok (.ref (b + i)) s := by
  have e : ((List.range n).map fun i => D.ref (b + i))[i]? = some (.ref (b + i)) := by simp [hi]
  simp only [refsD, ixD, rdS, atI_of e]
/-- a table as the program has it -/
def tabD (n m : Nat) (M : Nat → Nat → Rat) : D := .tup ((List.range n).map fun i => .tup (rowD m (M i)))
theorem ix_tab {n m i : Nat} {M : Nat → Nat → Rat} (s : Sto) (hi : i < n) : ixD (tabD n m M) (.int i) s = .ok (.tup (rowD m (M i))) s := by
  have e : ((List.range n).map fun i => D.tup (rowD m (M i)))[i]? = some (.tup (rowD m (M i))) := by simp [hi]
  simp only [tabD, ixD, rdS, atI_of e]
theorem ix_row {m j : Nat} {f : Nat → Rat} (s : Sto) (hj : j < m) : ixD (.tup (rowD m f)) (.int j) s = .ok (fr (f j)) s := by
  simp only [ixD, rdS, atI_of (rowD_get hj)]
theorem plN_fr (x : Rat) : plN 2 (fr x) = true := rfl
theorem plN_row {m : Nat} {f : Nat → Rat} : (rowD m f).all (plN 2) = true := by
  simp [rowD, plN_fr]
theorem plN_tab {n m : Nat} {M : Nat → Nat → Rat} : plN 4 (tabD n m M) = true := by
  simp only [tabD, plN, List.all_map, List.all_eq_true, Function.comp]
  intro i _ x hx
  exact List.all_eq_true.mp plN_row x hx
theorem fr_inj {x y : Rat} : fr x = fr y ↔ x = y := by
  constructor
  · intro h
    simp only [fr, D.tup.injEq, List.cons.injEq, D.int.injEq, and_true] at h
    exact Rat.ext h.1 (by omega)
  · rintro rfl; rfl
theorem eqD_fr (x y : Rat) (s : Sto) : eqD (fr x) (fr y) s = .ok (.bl (decide (x = y))) s := by
  rw [eqD_pl 2 (plN_fr x) (plN_fr y) (by decide)]
  congr 2
  exact decide_eq_decide.mpr fr_inj
theorem neD_fr (x y : Rat) (s : Sto) : neD (fr x) (fr y) s = .ok (.bl (!decide (x = y))) s := by
  rw [neD_pl 2 (plN_fr x) (plN_fr y) (by decide)]
  congr 3
  exact decide_eq_decide.mpr fr_inj
theorem fr_zero : (.tup [.int 0, .int 1] : D) = fr 0 := rfl
theorem fr_one : (.tup [.int 1, .int 1] : D) = fr 1 := rfl

/-! ### draws -/
/-- a bag at n -/
def BagAt (s : Sto) (n : Nat) : Prop := ∃ a b c : Int, s[n]? = some (.lst [.int a, .int b, .int c]) ∧ c.natAbs < 2 ^ 64
/-- nothing but n has changed, and there stands a bag -/
def Drew (s s' : Sto) (n : Nat) : Prop := ∃ a b c : Int, s' = s.set n (.lst [.int a, .int b, .int c]) ∧ c.natAbs < 2 ^ 64
theorem Drew.bag {s s' : Sto} {n : Nat} (h : Drew s s' n) (hn : n < s.length) : BagAt s' n := by
  obtain ⟨a, b, c, rfl, hc⟩ := h
  exact ⟨a, b, c, by rw [List.getElem?_set_self hn], hc⟩
theorem Drew.trans {s s1 s2 : Sto} {n : Nat} (h : Drew s s1 n) (h2 : Drew s1 s2 n) : Drew s s2 n := by
  obtain ⟨a, b, c, rfl, hc⟩ := h
  obtain ⟨a', b', c', rfl, hc'⟩ := h2
  exact ⟨a', b', c', by rw [List.set_set], hc'⟩
theorem BagAt.lt {s : Sto} {n : Nat} (h : BagAt s n) : n < s.length := by
  obtain ⟨a, b, c, h, _⟩ := h
  exact (List.getElem?_eq_some_iff.mp h).1
theorem Drew.refl {s : Sto} {n : Nat} (h : BagAt s n) : Drew s s n := by
  obtain ⟨a, b, c, h, hc⟩ := h
  refine ⟨a, b, c, ?_, hc⟩
  apply List.ext_getElem?
  intro k
  by_cases hk : n = k
  · subst hk
    rw [List.getElem?_set_self (List.getElem?_eq_some_iff.mp h).1, h]
  · rw [List.getElem?_set_ne hk]
theorem Drew.len {s s' : Sto} {n : Nat} (h : Drew s s' n) : s'.length = s.length := by
  obtain ⟨a, b, c, rfl, _⟩ := h
  exact List.length_set
theorem Drew.other {s s' : Sto} {n m : Nat} (h : Drew s s' n) (hm : n ≠ m) : s'[m]? = s[m]? := by
  obtain ⟨a, b, c, rfl, _⟩ := h
  exact List.getElem?_set_ne hm
theorem ixAt {s : Sto} {n : Nat} {xs : List D} {k : Int} {v : D} (h1 : s[n]? = some (.lst xs)) (h2 : atI xs k = some v) : ixD (.ref n) (.int k) s = .ok v s := by
  simp only [ixD, rdS, h1, h2]
theorem Drew.plS {s s' : Sto} {n : Nat} (h : Drew s s' n) (hs : plS s) : plS s' := by
  obtain ⟨a, b, c, rfl, _⟩ := h
  intro o ho
  rcases List.mem_or_eq_of_mem_set ho with h | rfl
  · exact hs o h
  · rfl
theorem BagAt.app {s : Sto} {n : Nat} (h : BagAt s n) (t : Sto) : BagAt (s ++ t) n := by
  have := h.lt
  obtain ⟨a, b, c, h, hc⟩ := h
  exact ⟨a, b, c, by rw [List.getElem?_append_left this, h], hc⟩
theorem Drew.app {s t s' : Sto} {n : Nat} (h : Drew (s ++ t) s' n) (hn : n < s.length) : ∃ s1, s' = s1 ++ t ∧ Drew s s1 n := by
  obtain ⟨a, b, c, rfl, hc⟩ := h
  exact ⟨_, by rw [List.set_append_left _ _ hn], a, b, c, rfl, hc⟩
theorem divInt_pos {p q : Int} (hp : 0 < p) (hq : 0 < q) : 0 < Rat.divInt p q := by
  rw [Rat.divInt_eq_div, Rat.div_def]
  exact Rat.mul_pos (Rat.intCast_pos.mpr hp) (Rat.inv_pos.mpr (Rat.intCast_pos.mpr hq))

/-! ### while, by a measure -/
theorem while_inv {mc : MT} {mb : MS} (P : Nat → Loc → Sto → Prop)
    (step : ∀ n l s, P n l s → mc l s = .ok false s ∨ mc l s = .ok true s ∧ ∃ n' l' s', n' < n ∧ (mb l s = .nx l' s' ∨ mb l s = .ct l' s') ∧ P n' l' s') :
    ∀ (n : Nat) (l : Loc) (s : Sto), P n l s → ∃ n' l' s', mWhile mc mb l s = .nx l' s' ∧ P n' l' s' ∧ mc l' s' = .ok false s' := by
  intro n
  induction n using Nat.strongRecOn with
  | _ n ih =>
    intro l s h
    rcases step n l s h with e | ⟨e, n', l', s', hn, e2, h2⟩
    · exact ⟨n, l, s, by rw [mWhile_eq, e], h, e⟩
    · obtain ⟨n2, l2, s2, a, b, c⟩ := ih n' hn l' s' h2
      refine ⟨n2, l2, s2, ?_, b, c⟩
      rw [mWhile_eq, e]
      rcases e2 with e2 | e2
      · simp only [e2, a]
      · simp only [e2, a]
/-! ### heads of loops -/
section
variable {m m2 : ME} {mi : MI} {tg : MG} {tt : MT} {me : ME} {body : MS} {l : Loc} {s s1 s2 : Sto} {ds ys : List D} {own : List Nat}
theorem for_ok (h : mi l s = .ok ds s1) : mFor mi tg body l s = forL tg body ds l s1 := by
  unfold mFor; rw [h]
theorem rng1_ok {n : Nat} (h : m l s = .ok (.int (n : Int)) s1) (hn : n ≤ 1000000) : mRng1 (mCons m mNil) l s = .ok (rangeD 0 n) s1 := by
  have hb : intB (n : Int) = true := intB_small (by omega) (by omega)
  simp only [mRng1, mCons, h, R.bind_ok, mNil]
  rw [if_pos hb, Int.toNat_natCast]
theorem rng2_ok {lo : Int} {hi : Int} {n : Nat} (h : m l s = .ok (.int lo) s1) (h2 : m2 l s1 = .ok (.int hi) s2) (h3 : (hi - lo).toNat = n) (a : -1000000 ≤ lo) (b : lo ≤ 1000000) (c : -1000000 ≤ hi) (d : hi ≤ 1000000) : mRng2 (mCons m (mCons m2 mNil)) l s = .ok (rangeD lo n) s2 := by
  have hb : intB lo = true := intB_small (by omega) (by omega)
  have hc : intB hi = true := intB_small (by omega) (by omega)
  simp only [mRng2, mCons, h, h2, R.bind_ok, mNil]
  rw [if_pos ⟨hb, hc⟩, h3]
theorem iter_ok {d : D} (h : m l s = .ok d s1) (h2 : stands d = some ds) : mIter m l s = .ok ds s1 := by
  simp only [mIter, h, R.bind_ok, h2]
theorem lc_ok (h : mi l s = .ok ds s1) (h2 : lcL tg tt me ds (wipeD l own) s1 = .ok ys s2) (h3 : ys.length ≤ 100000) : mLc own mi tg tt me l s = .ok (.lst ys) s2 := by
  simp only [mLc, h, R.bind_ok, h2, noEx, if_pos h3]
theorem lcN_ok (h : mi l s = .ok ds s1) (h2 : lcL tg tt me ds (wipeD l own) s1 = .ok ys s2) (h3 : ys.length ≤ 100000) : mLcN own mi tg tt me l s = .ok (.ref s2.length) (s2 ++ [.lst ys]) := by
  simp only [mLcN, h, R.bind_ok, h2, noEx, if_pos h3]
end
/-- the other Euclid -/
theorem euclid2_while {i j : Nat} (hij : i ≠ j) : ∀ (n : Nat) (p q : Int) (l : Loc) (s : Sto), p.natAbs ≤ n → 0 ≤ q → l[i]? = some (some (.int p)) → l[j]? = some (some (.int q)) →
    mWhile (mTest (mOp neD (mVar i) (mC (.int 0)))) (mPar i j (mCons (mOp modD (mVar j) (mCB absF (mCons (mVar i) mNil))) (mCons (mCB absF (mCons (mVar i) mNil)) mNil))) l s = .nx ((l.set i (some (.int 0))).set j (some (.int (Int.gcd p q : Nat)))) s := by
  intro n
  induction n with
  | zero =>
    intro p q l s hn hq hi hj
    have hb : p = 0 := by omega
    subst hb
    rw [mWhile_eq]
    simp only [mTest, mOp, mVar, hi, mC, R.bind_ok, neD_int]
    have e1 : l.set i (some (.int 0)) = l := by
      apply List.ext_getElem?
      intro k
      by_cases h : i = k
      · subst h
        rw [List.getElem?_set_self (List.getElem?_eq_some_iff.mp hi).1, hi]
      · rw [List.getElem?_set_ne h]
    have e2 : l.set j (some (.int (Int.gcd 0 q : Nat))) = l := by
      apply List.ext_getElem?
      intro k
      by_cases h : j = k
      · subst h
        rw [List.getElem?_set_self (List.getElem?_eq_some_iff.mp hj).1, hj, Int.gcd_zero_left]
        congr 3
        omega
      · rw [List.getElem?_set_ne h]
    rw [e1, e2]
    rfl
  | succ n ih =>
    intro p q l s hn hq hi hj
    by_cases hb : p = 0
    · exact ih p q l s (by omega) hq hi hj
    · have hp : ((if p < 0 then -p else p) : Int) ≠ 0 := by split <;> omega
      have hlt := fmod_natAbs q (if p < 0 then -p else p) hp
      have hnn : 0 ≤ q.fmod (if p < 0 then -p else p) := Int.fmod_nonneg_of_pos _ (by split <;> omega)
      have hli : i < l.length := (List.getElem?_eq_some_iff.mp hi).1
      have hlj : j < l.length := (List.getElem?_eq_some_iff.mp hj).1
      have h3 := ih (q.fmod (if p < 0 then -p else p)) (if p < 0 then -p else p) ((l.set i (some (.int (q.fmod (if p < 0 then -p else p))))).set j (some (.int (if p < 0 then -p else p)))) s (by
          have : (if p < 0 then -p else p : Int).natAbs = p.natAbs := by split <;> omega
          omega) (by split <;> omega)
        (by rw [List.getElem?_set_ne (Ne.symm hij), List.getElem?_set_self hli]) (by rw [List.getElem?_set_self (by rw [List.length_set]; exact hlj)])
      rw [mWhile_eq]
      have hne : (!(p == 0)) = true := by simp [hb]
      simp only [mTest, mOp, mVar, hi, mC, R.bind_ok, neD_int, hne]
      simp only [mPar, mCons, mVar, hj, hi, mOp, mCB, absF, R.bind_ok, modD, if_neg hp, mNil, toOut]
      rw [h3]
      have eg : Int.gcd (q.fmod (if p < 0 then -p else p)) (if p < 0 then -p else p) = Int.gcd p q := by
        rw [Int.gcd_comm, gcd_fmod, Int.gcd_comm]
        split
        · rw [Int.neg_gcd]
        · rfl
      rw [eg]
      congr 1
      apply List.ext_getElem?
      intro k
      by_cases hk : j = k
      · subst hk
        rw [List.getElem?_set_self (by simpa using hlj), List.getElem?_set_self (by simpa using hlj)]
      · rw [List.getElem?_set_ne hk, List.getElem?_set_ne hk]
        by_cases hk2 : i = k
        · subst hk2
          rw [List.getElem?_set_self (by simpa using hli), List.getElem?_set_self (by simpa using hli)]
        · rw [List.getElem?_set_ne hk2, List.getElem?_set_ne hk2, List.getElem?_set_ne hk, List.getElem?_set_ne hk2]
theorem boolsD_map {α : Type} (xs : List α) (p : α → Bool) : boolsD (xs.map fun x => .bl (p x)) = some (xs.map p) := by
  induction xs with
  | nil => rfl
  | cons x xs ih => simp only [List.map_cons, boolsD, ih]; rfl
theorem allF_map {α : Type} (xs : List α) (p : α → Bool) (s : Sto) : allF [.lst (xs.map fun x => .bl (p x))] s = .ok (.bl (xs.all p)) s := by
  simp only [allF, rdL, Option.bind_some, boolsD_map, List.all_map]; rfl
theorem anyF_map {α : Type} (xs : List α) (p : α → Bool) (s : Sto) : anyF [.lst (xs.map fun x => .bl (p x))] s = .ok (.bl (xs.any p)) s := by
  simp only [anyF, rdL, Option.bind_some, boolsD_map, List.any_map]; rfl
theorem lenF_tup (xs : List D) (s : Sto) : lenF [.tup xs] s = .ok (.int xs.length) s := rfl
theorem lenF_lst (xs : List D) (s : Sto) : lenF [.lst xs] s = .ok (.int xs.length) s := rfl
theorem isi_tup (xs : List D) (s : Sto) : isiF "tuple" (.tup xs) s = .ok (.bl true) s := rfl
theorem isi_lst (xs : List D) (s : Sto) : isiF "tuple" (.lst xs) s = .ok (.bl false) s := rfl
theorem isi_non (s : Sto) : isiF "tuple" .non s = .ok (.bl false) s := rfl
theorem num_pos {x : Rat} : 0 < x.num ↔ 0 < x := by
  rw [Rat.lt_iff]
  simp
/-! ### looking in loops in loops -/
def Look (m : MS) (s : Sto) (P : Loc → Prop) (r : Option D) : Prop := ∀ l, P l → (∀ v, r = some v → m l s = .rt v s) ∧ (r = none → ∃ l', m l s = .nx l' s ∧ P l')
theorem look_for {mi : MI} {tg : MG} {body : MS} {s : Sto} {P : Loc → Prop} {Q : Nat → Loc → Prop} {lo : Int} {n : Nat} {f : Nat → Option D}
    (hmi : ∀ l, P l → mi l s = .ok (rangeD lo n) s) (htg : ∀ i l, i < n → P l → ∃ l1, tg (.int (lo + (i : Nat))) l s = .ok l1 s ∧ Q i l1)
    (hb : ∀ i, i < n → Look body s (Q i) (f i)) (hQ : ∀ i l, Q i l → P l) : Look (mFor mi tg body) s P ((List.range n).findSome? f) := fun l hP => by
  rw [for_ok (hmi l hP)]
  exact forL_look P s f (fun i l hi hp => by
    obtain ⟨l1, e1, q1⟩ := htg i l hi hp
    refine ⟨l1, e1, (hb i hi l1 q1).1, fun hf => ?_⟩
    obtain ⟨l2, e2, q2⟩ := (hb i hi l1 q1).2 hf
    exact ⟨l2, e2, hQ i l2 q2⟩) hP
theorem look_seq {m m' : MS} {s : Sto} {P : Loc → Prop} {r r' : Option D} (h : Look m s P r) (h' : Look m' s P r') : Look (mSeq m m') s P (r.or r') := fun l hl => by
  have a := h l hl
  cases r with
  | some v =>
    refine ⟨fun w hw => ?_, fun hw => by cases hw⟩
    rw [mSeq, a.1 v rfl]
    cases hw; rfl
  | none =>
    obtain ⟨l', e, hl'⟩ := a.2 rfl
    have b := h' l' hl'
    refine ⟨fun w hw => ?_, fun hw => ?_⟩
    · rw [mSeq, e]; exact b.1 w hw
    · rw [mSeq, e]; exact b.2 hw
/-! ### in -/
open Classical in
theorem eqvA_any {k : Nat} {d : D} (hd : plN k d = true) : ∀ xs : List D, (∀ x ∈ xs, plN k x = true) → ((pyA xs).any fun z => PyData.eqv z (py d)) = decide (d ∈ xs)
  | [], _ => by simp [pyA]
  | x :: xs, h => by
    have e := py_eqv k x d (h x (List.mem_cons_self ..)) hd
    have ih := eqvA_any hd xs fun y hy => h y (List.mem_cons_of_mem _ hy)
    simp only [pyA, List.any_cons, ih, List.mem_cons]
    by_cases hx : d = x
    · rw [e.mpr hx.symm]; simp [hx]
    · have : PyData.eqv (py x) (py d) = false := by
        cases h2 : PyData.eqv (py x) (py d) with
        | false => rfl
        | true => exact absurd (e.mp h2).symm hx
      rw [this]; simp [hx]
open Classical in
theorem memB_pl {s : Sto} {k : Nat} {d : D} {xs : List D} (hd : plN k d = true) (h : ∀ x ∈ xs, plN k x = true) (hk : k + 1 ≤ 64) : memB s d (.lst xs) = some (decide (d ∈ xs)) ∧ memB s d (.tup xs) = some (decide (d ∈ xs)) := by
  obtain ⟨_, a1, b1, c1⟩ := plN_toPy s k d hd
  have hl : plN (k + 1) (.lst xs) = true := by simp only [plN, List.all_eq_true]; exact h
  have ht : plN (k + 1) (.tup xs) = true := by simp only [plN, List.all_eq_true]; exact h
  obtain ⟨_, a2, b2, c2⟩ := plN_toPy s (k + 1) _ hl
  obtain ⟨_, a3, b3, c3⟩ := plN_toPy s (k + 1) _ ht
  have s1 : SeqAt.shaped (py d) = true := by simp only [SeqAt.shaped, b1, Bool.true_and, decide_eq_true_eq]; omega
  have s2 : SeqAt.shaped (py (.lst xs)) = true := by simp only [SeqAt.shaped, b2, Bool.true_and, decide_eq_true_eq]; omega
  have s3 : SeqAt.shaped (py (.tup xs)) = true := by simp only [SeqAt.shaped, b3, Bool.true_and, decide_eq_true_eq]; omega
  simp only [py] at a2 a3 s2 s3
  have e := eqvA_any hd xs h
  constructor
  · simp only [memB, a1, a2, s1, s2, and_self, if_true, e]
  · simp only [memB, a1, a3, s1, s3, and_self, if_true, e]
open Classical in
theorem inD_lst {s : Sto} (k : Nat) {d : D} {xs : List D} (hd : plN k d = true) (h : ∀ x ∈ xs, plN k x = true) (hk : k + 1 ≤ 64) : inD d (.lst xs) s = .ok (.bl (decide (d ∈ xs))) s := by
  simp only [inD, (memB_pl hd h hk).1]
open Classical in
theorem inD_tup {s : Sto} (k : Nat) {d : D} {xs : List D} (hd : plN k d = true) (h : ∀ x ∈ xs, plN k x = true) (hk : k + 1 ≤ 64) : inD d (.tup xs) s = .ok (.bl (decide (d ∈ xs))) s := by
  simp only [inD, (memB_pl hd h hk).2]
open Classical in
theorem ninD_lst {s : Sto} (k : Nat) {d : D} {xs : List D} (hd : plN k d = true) (h : ∀ x ∈ xs, plN k x = true) (hk : k + 1 ≤ 64) : ninD d (.lst xs) s = .ok (.bl (!decide (d ∈ xs))) s := by
  simp only [ninD, (memB_pl hd h hk).1]
open Classical in
theorem ninD_tup {s : Sto} (k : Nat) {d : D} {xs : List D} (hd : plN k d = true) (h : ∀ x ∈ xs, plN k x = true) (hk : k + 1 ≤ 64) : ninD d (.tup xs) s = .ok (.bl (!decide (d ∈ xs))) s := by
  simp only [ninD, (memB_pl hd h hk).2]
/-- [.. for .. in ..], nothing changed -/
theorem lc_map {mi : MI} {tg : MG} {me : ME} {l : Loc} {s : Sto} {ds : List D} {own : List Nat} (f : D → D) (h : mi l s = .ok ds s) (h3 : ds.length ≤ 100000) (h2 : ∀ d ∈ ds, ∃ l1, tg d (wipeD l own) s = .ok l1 s ∧ me l1 s = .ok (f d) s) : mLc own mi tg mYes me l s = .ok (.lst (ds.map f)) s :=
  lc_ok h (lcL_pure f fun d hd => by
    obtain ⟨l1, a, b⟩ := h2 d hd
    exact ⟨l1, a, rfl, b⟩) (by rw [List.length_map]; exact h3)
theorem mSeq_assoc (a b c : MS) : mSeq a (mSeq b c) = mSeq (mSeq a b) c := by
  funext l s
  simp only [mSeq]
  cases a l s <;> rfl
end DL


namespace K71
open PySem PySem.Spec PyProof.Rows L2 DL
noncomputable section
def topS (i : Nat) : Stmt := PySem.Challenge.pw_currentwebs_k71_whole_endless_rows.main.body.getD i (.Pass ⟨0, 0, 0, 0⟩)
abbrev s_common : Stmt := topS 6
abbrev s_is_any_fraction : Stmt := topS 14
abbrev s_is_fraction : Stmt := topS 17
abbrev s_sign : Stmt := topS 12
abbrev s_is_part : Stmt := topS 34
abbrev s_look_at_ladder : Stmt := topS 35
abbrev s_greatest_divisor : Stmt := topS 23
abbrev s_fraction : Stmt := topS 7
abbrev s_minus : Stmt := topS 9
abbrev s_plus : Stmt := topS 8
abbrev s_times : Stmt := topS 10
abbrev s_product : Stmt := topS 38
abbrev s_endless_by : Stmt := topS 39
abbrev s_endless : Stmt := topS 40
abbrev s__law_draw : Stmt := topS 45
abbrev s__law_ladder : Stmt := topS 53
abbrev s__law_whole : Stmt := topS 57
abbrev s__law_fr : Stmt := topS 46
abbrev s__law_add : Stmt := topS 47
abbrev s__law_div : Stmt := topS 50
abbrev s__law_mul : Stmt := topS 49
abbrev s__law_after : Stmt := topS 54
abbrev s__law_sub : Stmt := topS 48
abbrev s__law_over : Stmt := topS 55
abbrev s__law_through : Stmt := topS 56
abbrev s_is_root : Stmt := topS 24
abbrev s_look_at_root : Stmt := topS 25
abbrev s_square_root : Stmt := topS 28
abbrev s_fraction_by : Stmt := topS 29
abbrev s_compare_by : Stmt := topS 26
abbrev s_order : Stmt := topS 30
abbrev s_is_number : Stmt := topS 21
abbrev s_over : Stmt := topS 11
abbrev s_ahead : Stmt := topS 36
abbrev s_ahead_of_all : Stmt := topS 37
abbrev s_less : Stmt := topS 13
abbrev s_parts_enough : Stmt := topS 41
abbrev s__law_told : Stmt := topS 58
abbrev s_compare : Stmt := topS 27
abbrev s_turned : Stmt := topS 42
abbrev s__law_case : Stmt := topS 59
abbrev s__law_bag : Stmt := topS 44
abbrev s_law : Stmt := topS 60
abbrev n_common : List Str := ["p", "q"]
abbrev p_common : List Str := ["p", "q"]
theorem sc_common : FnScope n_common p_common (defScope s_common) := ⟨rfl, rfl, rfl, by decide +kernel, rfl, by decide +kernel, by decide +kernel⟩
abbrev n_is_any_fraction : List Str := ["value", "p", "q"]
abbrev p_is_any_fraction : List Str := ["value"]
theorem sc_is_any_fraction : FnScope n_is_any_fraction p_is_any_fraction (defScope s_is_any_fraction) := ⟨rfl, rfl, rfl, by decide +kernel, rfl, by decide +kernel, by decide +kernel⟩
abbrev n_is_fraction : List Str := ["value"]
abbrev p_is_fraction : List Str := ["value"]
theorem sc_is_fraction : FnScope n_is_fraction p_is_fraction (defScope s_is_fraction) := ⟨rfl, rfl, rfl, by decide +kernel, rfl, by decide +kernel, by decide +kernel⟩
abbrev n_sign : List Str := ["x"]
abbrev p_sign : List Str := ["x"]
theorem sc_sign : FnScope n_sign p_sign (defScope s_sign) := ⟨rfl, rfl, rfl, by decide +kernel, rfl, by decide +kernel, by decide +kernel⟩
abbrev n_is_part : List Str := ["value"]
abbrev p_is_part : List Str := ["value"]
theorem sc_is_part : FnScope n_is_part p_is_part (defScope s_is_part) := ⟨rfl, rfl, rfl, by decide +kernel, rfl, by decide +kernel, by decide +kernel⟩
abbrev n_look_at_ladder : List Str := ["value", "one"]
abbrev p_look_at_ladder : List Str := ["value"]
theorem sc_look_at_ladder : FnScope n_look_at_ladder p_look_at_ladder (defScope s_look_at_ladder) := ⟨rfl, rfl, rfl, by decide +kernel, rfl, by decide +kernel, by decide +kernel⟩
abbrev n_greatest_divisor : List Str := ["numbers", "found", "number", "a", "b"]
abbrev p_greatest_divisor : List Str := ["numbers"]
theorem sc_greatest_divisor : FnScope n_greatest_divisor p_greatest_divisor (defScope s_greatest_divisor) := ⟨rfl, rfl, rfl, by decide +kernel, rfl, by decide +kernel, by decide +kernel⟩
abbrev n_fraction : List Str := ["p", "q", "divisor"]
abbrev p_fraction : List Str := ["p", "q"]
theorem sc_fraction : FnScope n_fraction p_fraction (defScope s_fraction) := ⟨rfl, rfl, rfl, by decide +kernel, rfl, by decide +kernel, by decide +kernel⟩
abbrev n_minus : List Str := ["x", "y"]
abbrev p_minus : List Str := ["x", "y"]
theorem sc_minus : FnScope n_minus p_minus (defScope s_minus) := ⟨rfl, rfl, rfl, by decide +kernel, rfl, by decide +kernel, by decide +kernel⟩
abbrev n_plus : List Str := ["x", "y"]
abbrev p_plus : List Str := ["x", "y"]
theorem sc_plus : FnScope n_plus p_plus (defScope s_plus) := ⟨rfl, rfl, rfl, by decide +kernel, rfl, by decide +kernel, by decide +kernel⟩
abbrev n_times : List Str := ["x", "y"]
abbrev p_times : List Str := ["x", "y"]
theorem sc_times : FnScope n_times p_times (defScope s_times) := ⟨rfl, rfl, rfl, by decide +kernel, rfl, by decide +kernel, by decide +kernel⟩
abbrev n_product : List Str := ["one", "other", "a", "b", "c", "d", "e", "f", "g", "h", "top"]
abbrev p_product : List Str := ["one", "other"]
theorem sc_product : FnScope n_product p_product (defScope s_product) := ⟨rfl, rfl, rfl, by decide +kernel, rfl, by decide +kernel, by decide +kernel⟩
abbrev n_endless_by : List Str := ["ladder", "found", "word", "r", "a", "b", "c", "d", "rows", "scale", "_", "q", "whole", "common", "p", "one"]
abbrev p_endless_by : List Str := ["ladder"]
theorem sc_endless_by : FnScope n_endless_by p_endless_by (defScope s_endless_by) := ⟨rfl, rfl, rfl, by decide +kernel, rfl, by decide +kernel, by decide +kernel⟩
abbrev n_endless : List Str := ["ladder", "words", "word", "_"]
abbrev p_endless : List Str := ["ladder"]
theorem sc_endless : FnScope n_endless p_endless (defScope s_endless) := ⟨rfl, rfl, rfl, by decide +kernel, rfl, by decide +kernel, by decide +kernel⟩
abbrev n__law_draw : List Str := ["bag", "many", "seed", "rest"]
abbrev p__law_draw : List Str := ["bag", "many"]
theorem sc__law_draw : FnScope n__law_draw p__law_draw (defScope s__law_draw) := ⟨rfl, rfl, rfl, by decide +kernel, rfl, by decide +kernel, by decide +kernel⟩
abbrev n__law_ladder : List Str := ["bag", "parts", "k", "words", "word", "r"]
abbrev p__law_ladder : List Str := ["bag"]
theorem sc__law_ladder : FnScope n__law_ladder p__law_ladder (defScope s__law_ladder) := ⟨rfl, rfl, rfl, by decide +kernel, rfl, by decide +kernel, by decide +kernel⟩
abbrev n__law_whole : List Str := ["n", "t", "step"]
abbrev p__law_whole : List Str := ["n"]
theorem sc__law_whole : FnScope n__law_whole p__law_whole (defScope s__law_whole) := ⟨rfl, rfl, rfl, by decide +kernel, rfl, by decide +kernel, by decide +kernel⟩
abbrev n__law_fr : List Str := ["p", "q", "a", "b"]
abbrev p__law_fr : List Str := ["p", "q"]
theorem sc__law_fr : FnScope n__law_fr p__law_fr (defScope s__law_fr) := ⟨rfl, rfl, rfl, by decide +kernel, rfl, by decide +kernel, by decide +kernel⟩
abbrev n__law_add : List Str := ["x", "y"]
abbrev p__law_add : List Str := ["x", "y"]
theorem sc__law_add : FnScope n__law_add p__law_add (defScope s__law_add) := ⟨rfl, rfl, rfl, by decide +kernel, rfl, by decide +kernel, by decide +kernel⟩
abbrev n__law_div : List Str := ["x", "y"]
abbrev p__law_div : List Str := ["x", "y"]
theorem sc__law_div : FnScope n__law_div p__law_div (defScope s__law_div) := ⟨rfl, rfl, rfl, by decide +kernel, rfl, by decide +kernel, by decide +kernel⟩
abbrev n__law_mul : List Str := ["x", "y"]
abbrev p__law_mul : List Str := ["x", "y"]
theorem sc__law_mul : FnScope n__law_mul p__law_mul (defScope s__law_mul) := ⟨rfl, rfl, rfl, by decide +kernel, rfl, by decide +kernel, by decide +kernel⟩
abbrev n__law_after : List Str := ["ladder", "times_v", "x", "turn", "word", "r"]
abbrev p__law_after : List Str := ["ladder", "times_v", "x"]
theorem sc__law_after : FnScope n__law_after p__law_after (defScope s__law_after) := ⟨rfl, rfl, rfl, by decide +kernel, rfl, by decide +kernel, by decide +kernel⟩
abbrev n__law_sub : List Str := ["x", "y"]
abbrev p__law_sub : List Str := ["x", "y"]
theorem sc__law_sub : FnScope n__law_sub p__law_sub (defScope s__law_sub) := ⟨rfl, rfl, rfl, by decide +kernel, rfl, by decide +kernel, by decide +kernel⟩
abbrev n__law_over : List Str := ["x", "y", "d", "u", "v", "w", "z", "under", "top"]
abbrev p__law_over : List Str := ["x", "y", "d"]
theorem sc__law_over : FnScope n__law_over p__law_over (defScope s__law_over) := ⟨rfl, rfl, rfl, by decide +kernel, rfl, by decide +kernel, by decide +kernel⟩
abbrev n__law_through : List Str := ["ladder", "x", "d", "word", "r", "more"]
abbrev p__law_through : List Str := ["ladder", "x", "d"]
theorem sc__law_through : FnScope n__law_through p__law_through (defScope s__law_through) := ⟨rfl, rfl, rfl, by decide +kernel, rfl, by decide +kernel, by decide +kernel⟩
abbrev n_is_root : List Str := ["value", "one"]
abbrev p_is_root : List Str := ["value"]
theorem sc_is_root : FnScope n_is_root p_is_root (defScope s_is_root) := ⟨rfl, rfl, rfl, by decide +kernel, rfl, by decide +kernel, by decide +kernel⟩
abbrev n_look_at_root : List Str := ["root"]
abbrev p_look_at_root : List Str := ["root"]
theorem sc_look_at_root : FnScope n_look_at_root p_look_at_root (defScope s_look_at_root) := ⟨rfl, rfl, rfl, by decide +kernel, rfl, by decide +kernel, by decide +kernel⟩
abbrev n_square_root : List Str := ["n", "low", "high", "middle"]
abbrev p_square_root : List Str := ["n"]
theorem sc_square_root : FnScope n_square_root p_square_root (defScope s_square_root) := ⟨rfl, rfl, rfl, by decide +kernel, rfl, by decide +kernel, by decide +kernel⟩
abbrev n_fraction_by : List Str := ["root", "_", "a", "b", "c", "under", "found"]
abbrev p_fraction_by : List Str := ["root"]
theorem sc_fraction_by : FnScope n_fraction_by p_fraction_by (defScope s_fraction_by) := ⟨rfl, rfl, rfl, by decide +kernel, rfl, by decide +kernel, by decide +kernel⟩
abbrev n_compare_by : List Str := ["root", "x", "_", "a", "b", "c", "p", "q", "value"]
abbrev p_compare_by : List Str := ["root", "x"]
theorem sc_compare_by : FnScope n_compare_by p_compare_by (defScope s_compare_by) := ⟨rfl, rfl, rfl, by decide +kernel, rfl, by decide +kernel, by decide +kernel⟩
abbrev n_order : List Str := ["root", "other", "known", "_", "a", "b", "c", "d", "e", "f", "by_one", "fixed", "value"]
abbrev p_order : List Str := ["root", "other"]
theorem sc_order : FnScope n_order p_order (defScope s_order) := ⟨rfl, rfl, rfl, by decide +kernel, rfl, by decide +kernel, by decide +kernel⟩
abbrev n_is_number : List Str := ["value", "p", "q"]
abbrev p_is_number : List Str := ["value"]
theorem sc_is_number : FnScope n_is_number p_is_number (defScope s_is_number) := ⟨rfl, rfl, rfl, by decide +kernel, rfl, by decide +kernel, by decide +kernel⟩
abbrev n_over : List Str := ["x", "y"]
abbrev p_over : List Str := ["x", "y"]
theorem sc_over : FnScope n_over p_over (defScope s_over) := ⟨rfl, rfl, rfl, by decide +kernel, rfl, by decide +kernel, by decide +kernel⟩
abbrev n_ahead : List Str := ["part", "x", "word", "r"]
abbrev p_ahead : List Str := ["part", "x"]
theorem sc_ahead : FnScope n_ahead p_ahead (defScope s_ahead) := ⟨rfl, rfl, rfl, by decide +kernel, rfl, by decide +kernel, by decide +kernel⟩
abbrev n_ahead_of_all : List Str := ["ladder", "x", "part"]
abbrev p_ahead_of_all : List Str := ["ladder", "x"]
theorem sc_ahead_of_all : FnScope n_ahead_of_all p_ahead_of_all (defScope s_ahead_of_all) := ⟨rfl, rfl, rfl, by decide +kernel, rfl, by decide +kernel, by decide +kernel⟩
abbrev n_less : List Str := ["x", "y"]
abbrev p_less : List Str := ["x", "y"]
theorem sc_less : FnScope n_less p_less (defScope s_less) := ⟨rfl, rfl, rfl, by decide +kernel, rfl, by decide +kernel, by decide +kernel⟩
abbrev n_parts_enough : List Str := ["ladder", "x", "root", "found", "many"]
abbrev p_parts_enough : List Str := ["ladder", "x"]
theorem sc_parts_enough : FnScope n_parts_enough p_parts_enough (defScope s_parts_enough) := ⟨rfl, rfl, rfl, by decide +kernel, rfl, by decide +kernel, by decide +kernel⟩
abbrev n__law_told : List Str := ["call", "values"]
abbrev p__law_told : List Str := ["call", "values"]
theorem sc__law_told : FnScope n__law_told p__law_told (defScope s__law_told) := ⟨rfl, rfl, rfl, by decide +kernel, rfl, by decide +kernel, by decide +kernel⟩
abbrev n_compare : List Str := ["root", "x"]
abbrev p_compare : List Str := ["root", "x"]
theorem sc_compare : FnScope n_compare p_compare (defScope s_compare) := ⟨rfl, rfl, rfl, by decide +kernel, rfl, by decide +kernel, by decide +kernel⟩
abbrev n_turned : List Str := ["ladder", "found", "word", "r", "other"]
abbrev p_turned : List Str := ["ladder"]
theorem sc_turned : FnScope n_turned p_turned (defScope s_turned) := ⟨rfl, rfl, rfl, by decide +kernel, rfl, by decide +kernel, by decide +kernel⟩
abbrev n__law_case : List Str := ["bag", "ladder", "root", "word", "a", "b", "c", "d", "whole", "x", "times_v", "high", "low", "many", "first", "rows", "besides", "k", "part", "odd"]
abbrev p__law_case : List Str := ["bag"]
theorem sc__law_case : FnScope n__law_case p__law_case (defScope s__law_case) := ⟨rfl, rfl, rfl, by decide +kernel, rfl, by decide +kernel, by decide +kernel⟩
abbrev n__law_bag : List Str := ["script", "k", "cell"]
abbrev p__law_bag : List Str := ["script", "k"]
theorem sc__law_bag : FnScope n__law_bag p__law_bag (defScope s__law_bag) := ⟨rfl, rfl, rfl, by decide +kernel, rfl, by decide +kernel, by decide +kernel⟩
abbrev n_law : List Str := ["script", "k"]
abbrev p_law : List Str := ["script"]
theorem sc_law : FnScope n_law p_law (defScope s_law) := ⟨rfl, rfl, rfl, by decide +kernel, rfl, by decide +kernel, by decide +kernel⟩
/-- what the top has written -/
structure Top (K : PySem.W.Frag) (mg : Str → Option Value) (G : Gm) : Prop where
  f_common : FnE K mg G "common" s_common
  f_is_any_fraction : FnE K mg G "is_any_fraction" s_is_any_fraction
  f_is_fraction : FnE K mg G "is_fraction" s_is_fraction
  f_sign : FnE K mg G "sign" s_sign
  f_is_part : FnE K mg G "is_part" s_is_part
  f_look_at_ladder : FnE K mg G "look_at_ladder" s_look_at_ladder
  f_greatest_divisor : FnE K mg G "greatest_divisor" s_greatest_divisor
  f_fraction : FnE K mg G "fraction" s_fraction
  f_minus : FnE K mg G "minus" s_minus
  f_plus : FnE K mg G "plus" s_plus
  f_times : FnE K mg G "times" s_times
  f_product : FnE K mg G "product" s_product
  f_endless_by : FnE K mg G "endless_by" s_endless_by
  f_endless : FnE K mg G "endless" s_endless
  f__law_draw : FnE K mg G "_law_draw" s__law_draw
  f__law_ladder : FnE K mg G "_law_ladder" s__law_ladder
  f__law_whole : FnE K mg G "_law_whole" s__law_whole
  f__law_fr : FnE K mg G "_law_fr" s__law_fr
  f__law_add : FnE K mg G "_law_add" s__law_add
  f__law_div : FnE K mg G "_law_div" s__law_div
  f__law_mul : FnE K mg G "_law_mul" s__law_mul
  f__law_after : FnE K mg G "_law_after" s__law_after
  f__law_sub : FnE K mg G "_law_sub" s__law_sub
  f__law_over : FnE K mg G "_law_over" s__law_over
  f__law_through : FnE K mg G "_law_through" s__law_through
  f_is_root : FnE K mg G "is_root" s_is_root
  f_look_at_root : FnE K mg G "look_at_root" s_look_at_root
  f_square_root : FnE K mg G "square_root" s_square_root
  f_fraction_by : FnE K mg G "fraction_by" s_fraction_by
  f_compare_by : FnE K mg G "compare_by" s_compare_by
  f_order : FnE K mg G "order" s_order
  f_is_number : FnE K mg G "is_number" s_is_number
  f_over : FnE K mg G "over" s_over
  f_ahead : FnE K mg G "ahead" s_ahead
  f_ahead_of_all : FnE K mg G "ahead_of_all" s_ahead_of_all
  f_less : FnE K mg G "less" s_less
  f_parts_enough : FnE K mg G "parts_enough" s_parts_enough
  f__law_told : FnE K mg G "_law_told" s__law_told
  f_compare : FnE K mg G "compare" s_compare
  f_turned : FnE K mg G "turned" s_turned
  f__law_case : FnE K mg G "_law_case" s__law_case
  f__law_bag : FnE K mg G "_law_bag" s__law_bag
  f_law : FnE K mg G "law" s_law
  b_abs : mg "abs" = none
  b_all : mg "all" = none
  b_bool : mg "bool" = none
  b_int : mg "int" = none
  b_isinstance : mg "isinstance" = none
  b_len : mg "len" = none
  b_max : mg "max" = none
  b_min : mg "min" = none
  b_range : mg "range" = none
  b_str : mg "str" = none
  b_tuple : mg "tuple" = none
  c_BadValue : ClD K mg G "BadValue"
  c_NoSuch : ClD K mg G "NoSuch"
  c_TooFar : ClD K mg G "TooFar"
  g_BEYOND : GlD K mg G "BEYOND" (.int 100000000000000000000)
  g_MOST_PARTS : GlD K mg G "MOST_PARTS" (.int 12)
  g_MOST_TIMES : GlD K mg G "MOST_TIMES" (.int 40)
  g_ONE : GlD K mg G "ONE" (.tup [.int 1, .int 1])
  g_ZERO : GlD K mg G "ZERO" (.tup [.int 0, .int 1])
  em : ExM K G
section
variable {P : Program} {w : World} {K : PySem.W.Frag} {mg : Str → Option Value} {base : Heap} {G : Gm}
/-- common(p, q) -/
def r_common : MF := mDef backF 2 2 ((mSeq (mWhile (mTest (mOp neD (mVar 1) (mC (.int 0)))) (mPar 0 1 (mCons (mVar 1) (mCons (mOp modD (mVar 0) (mVar 1)) mNil)))) (mRet (mCB absF (mCons (mVar 0) mNil)))))
theorem ok_common (T : Top G.K mg G) : FnD P w G.K mg base G 1 "common" 2 r_common := by
  exact def_e rfl (back := backF) (N := n_common) (ps := p_common) backF_ok T.f_common sc_common (fun _ _ _ _ _ _ us hl => match us, hl with | [_, _], _ => rfl) (fun f cdv A outer s H E hr W => ⟨_, (jss_cons (js_while (jt_cmp (op_neK (by rfl) hr.units) s_ne (je_var 1) je_int) (jss_one (js_par (i := 0) (j := 1) rfl sc_common.nd (ja_cons (je_var 1) (ja_cons (je_op op_modN s_mod (je_var 0) (je_var 1)) ja_nil))))) (jss_one (js_ret (je_cb call_abs sc_abs T.b_abs (ja_cons (je_var 0) ja_nil)))))⟩)
/-- is_any_fraction(value) -/
def r_is_any_fraction : MF := mDef backF 1 3 ((mSeq (mIfS (mOr (mNot (mTest (mIsi "tuple" (mVar 0)))) (mTest (mOp neD (mCB lenF (mCons (mVar 0) mNil)) (mC (.int 2))))) (mRet (mC (.bl false))) mNext) (mSeq (mAsg (mVar 0) (mgTup 2 (mgCons (mgName 1) (mgCons (mgName 2) mgNil)))) (mSeq (mIfS (mOr (mNot (mTest (mIsi "int" (mVar 1)))) (mOr (mTest (mIsi "bool" (mVar 1))) (mOr (mNot (mTest (mIsi "int" (mVar 2)))) (mOr (mTest (mIsi "bool" (mVar 2))) (mTest (mOp ltD (mVar 2) (mC (.int 1)))))))) (mRet (mC (.bl false))) mNext) (mRet (mOp eqD (mCall 2 r_common (mCons (mVar 1) (mCons (mVar 2) mNil))) (mC (.int 1))))))))
theorem ok_is_any_fraction (T : Top G.K mg G) : FnD P w G.K mg base G 2 "is_any_fraction" 1 r_is_any_fraction := by
  exact def_e rfl (back := backF) (N := n_is_any_fraction) (ps := p_is_any_fraction) backF_ok T.f_is_any_fraction sc_is_any_fraction (fun _ _ _ _ _ _ us hl => match us, hl with | [_], _ => rfl) (fun f cdv A outer s H E hr W => ⟨_, (jss_cons (js_if ((jw_or (jt_not (jt_val (je_isi (T := "tuple") (by decide) T.b_isinstance T.b_tuple (je_var 0)))) (jw_or1 (jt_cmp (op_neK (by rfl) hr.units) s_ne (je_cb (call_lenA (by rfl)) sc_len T.b_len (ja_cons (je_var 0) ja_nil)) je_int)))).jt (jss_one (js_ret je_bl)) jss_nil) (jss_cons (js_asg (je_var 0) (jg_tup (n := 2) rfl (jgs_cons (jg_name (i := 1) sc_is_any_fraction.nd) (jgs_cons (jg_name (i := 2) sc_is_any_fraction.nd) jgs_nil)))) (jss_cons (js_if ((jw_or (jt_not (jt_val (je_isi (T := "int") (by decide) T.b_isinstance T.b_int (je_var 1)))) (jw_or (jt_val (je_isi (T := "bool") (by decide) T.b_isinstance T.b_bool (je_var 1))) (jw_or (jt_not (jt_val (je_isi (T := "int") (by decide) T.b_isinstance T.b_int (je_var 2)))) (jw_or (jt_val (je_isi (T := "bool") (by decide) T.b_isinstance T.b_bool (je_var 2))) (jw_or1 (jt_cmp op_lt s_cmp (je_var 2) je_int))))))).jt (jss_one (js_ret je_bl)) jss_nil) (jss_one (js_ret (je_cmp (op_eqK (by rfl) hr.units) s_eq (je_call ((ok_common T).mono (by decide)) hr (ja_cons (je_var 1) (ja_cons (je_var 2) ja_nil))) je_int))))))⟩)
/-- is_fraction(value) -/
def r_is_fraction : MF := mDef backF 1 1 ((mSeq (mIfS (mNot (mTest (mCall 1 r_is_any_fraction (mCons (mVar 0) mNil)))) (mRet (mC (.bl false))) mNext) (mRet (mAndV (mOp ltD (mCB absF (mCons (mOp ixD (mVar 0) (mC (.int 0))) mNil)) (mC (.int 100000000000000000000))) (mOp ltD (mOp ixD (mVar 0) (mC (.int 1))) (mC (.int 100000000000000000000)))))))
theorem ok_is_fraction (T : Top G.K mg G) : FnD P w G.K mg base G 3 "is_fraction" 1 r_is_fraction := by
  exact def_e rfl (back := backF) (N := n_is_fraction) (ps := p_is_fraction) backF_ok T.f_is_fraction sc_is_fraction (fun _ _ _ _ _ _ us hl => match us, hl with | [_], _ => rfl) (fun f cdv A outer s H E hr W => ⟨_, (jss_cons (js_if (jt_not (jt_val (je_call ((ok_is_any_fraction T).mono (by decide)) hr (ja_cons (je_var 0) ja_nil)))) (jss_one (js_ret je_bl)) jss_nil) (jss_one (js_ret (je_and (je_cmp op_lt s_cmp (je_cb call_abs sc_abs T.b_abs (ja_cons (je_ix (je_var 0) je_int) ja_nil)) (je_glb T.g_BEYOND)) (je_one (je_cmp op_lt s_cmp (je_ix (je_var 0) je_int) (je_glb T.g_BEYOND)))))))⟩)
/-- sign(x) -/
def r_sign : MF := mDef backF 1 1 ((mRet (mOp subD (mCB intF (mCons (mOp gtD (mOp ixD (mVar 0) (mC (.int 0))) (mC (.int 0))) mNil)) (mCB intF (mCons (mOp ltD (mOp ixD (mVar 0) (mC (.int 0))) (mC (.int 0))) mNil)))))
theorem ok_sign (T : Top G.K mg G) : FnD P w G.K mg base G 1 "sign" 1 r_sign := by
  exact def_e rfl (back := backF) (N := n_sign) (ps := p_sign) backF_ok T.f_sign sc_sign (fun _ _ _ _ _ _ us hl => match us, hl with | [_], _ => rfl) (fun f cdv A outer s H E hr W => ⟨_, (jss_one (js_ret (je_op op_sub s_sub (je_ct call_int1 sc_int T.b_int (ja_cons (je_cmp op_gt s_cmp (je_ix (je_var 0) je_int) je_int) ja_nil)) (je_ct call_int1 sc_int T.b_int (ja_cons (je_cmp op_lt s_cmp (je_ix (je_var 0) je_int) je_int) ja_nil)))))⟩)
/-- is_part(value) -/
def r_is_part : MF := mDef backF 1 1 ((mSeq (mIfS (mOr (mNot (mTest (mIsi "tuple" (mVar 0)))) (mOr (mTest (mOp neD (mCB lenF (mCons (mVar 0) mNil)) (mC (.int 2)))) (mNot (mTest (mIsi "str" (mOp ixD (mVar 0) (mC (.int 0)))))))) (mRet (mC (.bl false))) mNext) (mRet (mAndV (mOp inD (mOp ixD (mVar 0) (mC (.int 0))) (mTup (mCons (mC (.str "row")) (mCons (mC (.str "beside")) mNil)))) (mAndV (mCall 1 r_is_fraction (mCons (mOp ixD (mVar 0) (mC (.int 1))) mNil)) (mOp gtD (mCall 1 r_sign (mCons (mOp ixD (mVar 0) (mC (.int 1))) mNil)) (mC (.int 0))))))))
theorem ok_is_part (T : Top G.K mg G) : FnD P w G.K mg base G 4 "is_part" 1 r_is_part := by
  exact def_e rfl (back := backF) (N := n_is_part) (ps := p_is_part) backF_ok T.f_is_part sc_is_part (fun _ _ _ _ _ _ us hl => match us, hl with | [_], _ => rfl) (fun f cdv A outer s H E hr W => ⟨_, (jss_cons (js_if ((jw_or (jt_not (jt_val (je_isi (T := "tuple") (by decide) T.b_isinstance T.b_tuple (je_var 0)))) (jw_or (jt_cmp (op_neK (by rfl) hr.units) s_ne (je_cb (call_lenA (by rfl)) sc_len T.b_len (ja_cons (je_var 0) ja_nil)) je_int) (jw_or1 (jt_not (jt_val (je_isi (T := "str") (by decide) T.b_isinstance T.b_str (je_ix (je_var 0) je_int)))))))).jt (jss_one (js_ret je_bl)) jss_nil) (jss_one (js_ret (je_and (je_cmp (op_inA (by rfl) (room65 hr)) s_in (je_ix (je_var 0) je_int) (je_tup (ja_cons je_str (ja_cons je_str ja_nil)))) (je_and (je_call ((ok_is_fraction T).mono (by decide)) hr (ja_cons (je_ix (je_var 0) je_int) ja_nil)) (je_one (je_cmp op_gt s_cmp (je_call ((ok_sign T).mono (by decide)) hr (ja_cons (je_ix (je_var 0) je_int) ja_nil)) je_int)))))))⟩)
/-- look_at_ladder(value) -/
def r_look_at_ladder : MF := mDef backF 1 2 ((mIfS (mOr (mNot (mTest (mIsi "tuple" (mVar 0)))) (mOr (mNot (mTest (mChain leD leD (mC (.int 1)) (mCB lenF (mCons (mVar 0) mNil)) (mC (.int 12))))) (mNot (mTest (mCB allF (mCons (mLc [1] (mIter (mVar 0)) (mgName 1) mYes (mCall 1 r_is_part (mCons (mVar 1) mNil))) mNil)))))) (mRaise "BadValue") mNext))
theorem ok_look_at_ladder (T : Top G.K mg G) : FnD P w G.K mg base G 5 "look_at_ladder" 1 r_look_at_ladder := by
  exact def_e rfl (back := backF) (N := n_look_at_ladder) (ps := p_look_at_ladder) backF_ok T.f_look_at_ladder sc_look_at_ladder (fun _ _ _ _ _ _ us hl => match us, hl with | [_], _ => rfl) (fun f cdv A outer s H E hr W => ⟨_, (jss_one (js_if ((jw_or (jt_not (jt_val (je_isi (T := "tuple") (by decide) T.b_isinstance T.b_tuple (je_var 0)))) (jw_or (jt_not (jt_chain op_le s_cmp op_le s_cmp je_int (je_cb (call_lenA (by rfl)) sc_len T.b_len (ja_cons (je_var 0) ja_nil)) (je_glb T.g_MOST_PARTS))) (jw_or1 (jt_not (jt_val (je_cb (cr_allK (by rfl) rfl) sc_all T.b_all (ja_cons (je_lc rfl (own := [("one", 1)]) sc_look_at_ladder.nd (ji_any (je_var 0)) (blkOk_by (N := n_look_at_ladder) (sc := defScope s_look_at_ladder) (by decide +kernel)) (keeps_name (by decide)) (fun _ _ _ _ _ => (jg_name (i := 1) sc_look_at_ladder.nd)) (fun _ _ _ _ _ => jts_nil) (fun _ _ _ _ _ => (je_call ((ok_is_part T).mono (by decide)) hr (ja_cons (je_var 1) ja_nil)))) ja_nil)))))))).jt (jss_one (js_raise T.c_BadValue rfl)) jss_nil))⟩)
/-- greatest_divisor(numbers) -/
def b_greatest_divisor_4 : MS := (mPar 3 4 (mCons (mVar 4) (mCons (mOp modD (mVar 3) (mVar 4)) mNil)))
def l_greatest_divisor_4 : MS := (mWhile (mTest (mOp gtD (mVar 4) (mC (.int 0)))) b_greatest_divisor_4)
def t_greatest_divisor_6 : MS := (mAsg (mVar 3) (mgName 1))
def t_greatest_divisor_4 : MS := (mSeq l_greatest_divisor_4 t_greatest_divisor_6)
def b_greatest_divisor_2 : MS := (mSeq (mPar 3 4 (mCons (mVar 1) (mCons (mCB absF (mCons (mVar 2) mNil)) mNil))) t_greatest_divisor_4)
def l_greatest_divisor_2 : MS := (mFor (mIter (mVar 0)) (mgName 2) b_greatest_divisor_2)
def t_greatest_divisor_7 : MS := (mRet (mVar 1))
def t_greatest_divisor_2 : MS := (mSeq l_greatest_divisor_2 t_greatest_divisor_7)
def r_greatest_divisor : MF := mDef backF 1 5 ((mSeq (mAsg (mC (.int 0)) (mgName 1)) t_greatest_divisor_2))
theorem ok_greatest_divisor (T : Top G.K mg G) : FnD P w G.K mg base G 1 "greatest_divisor" 1 r_greatest_divisor := by
  exact def_e rfl (back := backF) (N := n_greatest_divisor) (ps := p_greatest_divisor) backF_ok T.f_greatest_divisor sc_greatest_divisor (fun _ _ _ _ _ _ us hl => match us, hl with | [_], _ => rfl) (fun f cdv A outer s H E hr W => ⟨_, (jss_cons (js_set (i := 1) sc_greatest_divisor.nd je_int) (jss_cons (js_for rfl (ji_any (je_var 0)) (jg_name (i := 2) sc_greatest_divisor.nd) (jss_cons (js_par (i := 3) (j := 4) rfl sc_greatest_divisor.nd (ja_cons (je_var 1) (ja_cons (je_cb call_abs sc_abs T.b_abs (ja_cons (je_var 2) ja_nil)) ja_nil))) (jss_cons (js_while (jt_cmp op_gt s_cmp (je_var 4) je_int) (jss_one (js_par (i := 3) (j := 4) rfl sc_greatest_divisor.nd (ja_cons (je_var 4) (ja_cons (je_op op_modN s_mod (je_var 3) (je_var 4)) ja_nil))))) (jss_one (js_set (i := 1) sc_greatest_divisor.nd (je_var 3)))))) (jss_one (js_ret (je_var 1)))))⟩)
/-- fraction(p, q) -/
def r_fraction : MF := mDef backF 2 3 ((mSeq (mIfS (mTest (mOp eqD (mVar 1) (mC (.int 0)))) (mRaise "BadValue") mNext) (mSeq (mIfS (mTest (mOp ltD (mVar 1) (mC (.int 0)))) (mPar 0 1 (mCons (mUn negD (mVar 0)) (mCons (mUn negD (mVar 1)) mNil))) mNext) (mSeq (mAsg (mCall 2 r_common (mCons (mVar 0) (mCons (mVar 1) mNil))) (mgName 2)) (mRet (mTup (mCons (mOp fdivD (mVar 0) (mVar 2)) (mCons (mOp fdivD (mVar 1) (mVar 2)) mNil))))))))
theorem ok_fraction (T : Top G.K mg G) : FnD P w G.K mg base G 2 "fraction" 2 r_fraction := by
  exact def_e rfl (back := backF) (N := n_fraction) (ps := p_fraction) backF_ok T.f_fraction sc_fraction (fun _ _ _ _ _ _ us hl => match us, hl with | [_, _], _ => rfl) (fun f cdv A outer s H E hr W => ⟨_, (jss_cons (js_if (jt_cmp (op_eqK (by rfl) hr.units) s_eq (je_var 1) je_int) (jss_one (js_raise T.c_BadValue rfl)) jss_nil) (jss_cons (js_if (jt_cmp op_lt s_cmp (je_var 1) je_int) (jss_one (js_par (i := 0) (j := 1) rfl sc_fraction.nd (ja_cons (je_neg (je_var 0)) (ja_cons (je_neg (je_var 1)) ja_nil)))) jss_nil) (jss_cons (js_set (i := 2) sc_fraction.nd (je_call ((ok_common T).mono (by decide)) hr (ja_cons (je_var 0) (ja_cons (je_var 1) ja_nil)))) (jss_one (js_ret (je_tup (ja_cons (je_op op_fdivA s_fdiv (je_var 0) (je_var 2)) (ja_cons (je_op op_fdivA s_fdiv (je_var 1) (je_var 2)) ja_nil))))))))⟩)
/-- minus(x, y) -/
def r_minus : MF := mDef backF 2 2 ((mRet (mCall 2 r_fraction (mCons (mOp subD (mOp mulD (mOp ixD (mVar 0) (mC (.int 0))) (mOp ixD (mVar 1) (mC (.int 1)))) (mOp mulD (mOp ixD (mVar 1) (mC (.int 0))) (mOp ixD (mVar 0) (mC (.int 1))))) (mCons (mOp mulD (mOp ixD (mVar 0) (mC (.int 1))) (mOp ixD (mVar 1) (mC (.int 1)))) mNil)))))
theorem ok_minus (T : Top G.K mg G) : FnD P w G.K mg base G 3 "minus" 2 r_minus := by
  exact def_e rfl (back := backF) (N := n_minus) (ps := p_minus) backF_ok T.f_minus sc_minus (fun _ _ _ _ _ _ us hl => match us, hl with | [_, _], _ => rfl) (fun f cdv A outer s H E hr W => ⟨_, (jss_one (js_ret (je_call ((ok_fraction T).mono (by decide)) hr (ja_cons (je_op op_sub s_sub (je_op (op_mulA (by rfl)) s_mul (je_ix (je_var 0) je_int) (je_ix (je_var 1) je_int)) (je_op (op_mulA (by rfl)) s_mul (je_ix (je_var 1) je_int) (je_ix (je_var 0) je_int))) (ja_cons (je_op (op_mulA (by rfl)) s_mul (je_ix (je_var 0) je_int) (je_ix (je_var 1) je_int)) ja_nil)))))⟩)
/-- plus(x, y) -/
def r_plus : MF := mDef backF 2 2 ((mRet (mCall 2 r_fraction (mCons (mOp addD (mOp mulD (mOp ixD (mVar 0) (mC (.int 0))) (mOp ixD (mVar 1) (mC (.int 1)))) (mOp mulD (mOp ixD (mVar 1) (mC (.int 0))) (mOp ixD (mVar 0) (mC (.int 1))))) (mCons (mOp mulD (mOp ixD (mVar 0) (mC (.int 1))) (mOp ixD (mVar 1) (mC (.int 1)))) mNil)))))
theorem ok_plus (T : Top G.K mg G) : FnD P w G.K mg base G 3 "plus" 2 r_plus := by
  exact def_e rfl (back := backF) (N := n_plus) (ps := p_plus) backF_ok T.f_plus sc_plus (fun _ _ _ _ _ _ us hl => match us, hl with | [_, _], _ => rfl) (fun f cdv A outer s H E hr W => ⟨_, (jss_one (js_ret (je_call ((ok_fraction T).mono (by decide)) hr (ja_cons (je_op (op_addA (by rfl)) s_add (je_op (op_mulA (by rfl)) s_mul (je_ix (je_var 0) je_int) (je_ix (je_var 1) je_int)) (je_op (op_mulA (by rfl)) s_mul (je_ix (je_var 1) je_int) (je_ix (je_var 0) je_int))) (ja_cons (je_op (op_mulA (by rfl)) s_mul (je_ix (je_var 0) je_int) (je_ix (je_var 1) je_int)) ja_nil)))))⟩)
/-- times(x, y) -/
def r_times : MF := mDef backF 2 2 ((mRet (mCall 2 r_fraction (mCons (mOp mulD (mOp ixD (mVar 0) (mC (.int 0))) (mOp ixD (mVar 1) (mC (.int 0)))) (mCons (mOp mulD (mOp ixD (mVar 0) (mC (.int 1))) (mOp ixD (mVar 1) (mC (.int 1)))) mNil)))))
theorem ok_times (T : Top G.K mg G) : FnD P w G.K mg base G 3 "times" 2 r_times := by
  exact def_e rfl (back := backF) (N := n_times) (ps := p_times) backF_ok T.f_times sc_times (fun _ _ _ _ _ _ us hl => match us, hl with | [_, _], _ => rfl) (fun f cdv A outer s H E hr W => ⟨_, (jss_one (js_ret (je_call ((ok_fraction T).mono (by decide)) hr (ja_cons (je_op (op_mulA (by rfl)) s_mul (je_ix (je_var 0) je_int) (je_ix (je_var 1) je_int)) (ja_cons (je_op (op_mulA (by rfl)) s_mul (je_ix (je_var 0) je_int) (je_ix (je_var 1) je_int)) ja_nil)))))⟩)
/-- product(one, other) -/
def r_product : MF := mDef backF 2 11 ((mSeq (mAsg (mVar 0) (mgTup 4 (mgCons (mgName 2) (mgCons (mgName 3) (mgCons (mgName 4) (mgCons (mgName 5) mgNil)))))) (mSeq (mAsg (mVar 1) (mgTup 4 (mgCons (mgName 6) (mgCons (mgName 7) (mgCons (mgName 8) (mgCons (mgName 9) mgNil)))))) (mSeq (mAsg (mTup (mCons (mCall 2 r_plus (mCons (mCall 2 r_times (mCons (mVar 2) (mCons (mVar 6) mNil))) (mCons (mCall 2 r_times (mCons (mVar 3) (mCons (mVar 8) mNil))) mNil))) (mCons (mCall 2 r_plus (mCons (mCall 2 r_times (mCons (mVar 2) (mCons (mVar 7) mNil))) (mCons (mCall 2 r_times (mCons (mVar 3) (mCons (mVar 9) mNil))) mNil))) mNil))) (mgName 10)) (mRet (mOp addD (mVar 10) (mTup (mCons (mCall 2 r_plus (mCons (mCall 2 r_times (mCons (mVar 4) (mCons (mVar 6) mNil))) (mCons (mCall 2 r_times (mCons (mVar 5) (mCons (mVar 8) mNil))) mNil))) (mCons (mCall 2 r_plus (mCons (mCall 2 r_times (mCons (mVar 4) (mCons (mVar 7) mNil))) (mCons (mCall 2 r_times (mCons (mVar 5) (mCons (mVar 9) mNil))) mNil))) mNil)))))))))
theorem ok_product (T : Top G.K mg G) : FnD P w G.K mg base G 4 "product" 2 r_product := by
  exact def_e rfl (back := backF) (N := n_product) (ps := p_product) backF_ok T.f_product sc_product (fun _ _ _ _ _ _ us hl => match us, hl with | [_, _], _ => rfl) (fun f cdv A outer s H E hr W => ⟨_, (jss_cons (js_asg (je_var 0) (jg_tup (n := 4) rfl (jgs_cons (jg_name (i := 2) sc_product.nd) (jgs_cons (jg_name (i := 3) sc_product.nd) (jgs_cons (jg_name (i := 4) sc_product.nd) (jgs_cons (jg_name (i := 5) sc_product.nd) jgs_nil)))))) (jss_cons (js_asg (je_var 1) (jg_tup (n := 4) rfl (jgs_cons (jg_name (i := 6) sc_product.nd) (jgs_cons (jg_name (i := 7) sc_product.nd) (jgs_cons (jg_name (i := 8) sc_product.nd) (jgs_cons (jg_name (i := 9) sc_product.nd) jgs_nil)))))) (jss_cons (js_set (i := 10) sc_product.nd (je_tup (ja_cons (je_call ((ok_plus T).mono (by decide)) hr (ja_cons (je_call ((ok_times T).mono (by decide)) hr (ja_cons (je_var 2) (ja_cons (je_var 6) ja_nil))) (ja_cons (je_call ((ok_times T).mono (by decide)) hr (ja_cons (je_var 3) (ja_cons (je_var 8) ja_nil))) ja_nil))) (ja_cons (je_call ((ok_plus T).mono (by decide)) hr (ja_cons (je_call ((ok_times T).mono (by decide)) hr (ja_cons (je_var 2) (ja_cons (je_var 7) ja_nil))) (ja_cons (je_call ((ok_times T).mono (by decide)) hr (ja_cons (je_var 3) (ja_cons (je_var 9) ja_nil))) ja_nil))) ja_nil)))) (jss_one (js_ret (je_op (op_addA (by rfl)) s_add (je_var 10) (je_tup (ja_cons (je_call ((ok_plus T).mono (by decide)) hr (ja_cons (je_call ((ok_times T).mono (by decide)) hr (ja_cons (je_var 4) (ja_cons (je_var 6) ja_nil))) (ja_cons (je_call ((ok_times T).mono (by decide)) hr (ja_cons (je_var 5) (ja_cons (je_var 8) ja_nil))) ja_nil))) (ja_cons (je_call ((ok_plus T).mono (by decide)) hr (ja_cons (je_call ((ok_times T).mono (by decide)) hr (ja_cons (je_var 4) (ja_cons (je_var 7) ja_nil))) (ja_cons (je_call ((ok_times T).mono (by decide)) hr (ja_cons (je_var 5) (ja_cons (je_var 9) ja_nil))) ja_nil))) ja_nil)))))))))⟩)
/-- endless_by(ladder) -/
def b_endless_by_2 : MS := (mIfS (mTest (mOp eqD (mVar 2) (mC (.str "row")))) (mAsg (mCall 2 r_product (mCons (mVar 1) (mCons (mTup (mCons (mC (.tup [.int 1, .int 1])) (mCons (mVar 3) (mCons (mC (.tup [.int 0, .int 1])) (mCons (mC (.tup [.int 1, .int 1])) mNil))))) mNil))) (mgName 1)) (mAsg (mCall 2 r_product (mCons (mVar 1) (mCons (mTup (mCons (mVar 3) (mCons (mC (.tup [.int 0, .int 1])) (mCons (mC (.tup [.int 1, .int 1])) (mCons (mVar 3) mNil))))) mNil))) (mgName 1)))
def l_endless_by_2 : MS := (mFor (mIter (mVar 0)) (mgTup 2 (mgCons (mgName 2) (mgCons (mgName 3) mgNil))) b_endless_by_2)
def b_endless_by_10 : MS := (mAsg (mOp mulD (mVar 9) (mVar 11)) (mgName 9))
def l_endless_by_10 : MS := (mFor (mIter (mVar 8)) (mgTup 2 (mgCons (mgName 10) (mgCons (mgName 11) mgNil))) b_endless_by_10)
def t_endless_by_14 : MS := (mRet (mOp addD (mTup (mCons (mC (.str "root")) mNil)) (mCB tupleF (mCons (mLc [15] (mIter (mVar 12)) (mgName 15) mYes (mOp fdivD (mVar 15) (mVar 13))) mNil))))
def t_endless_by_13 : MS := (mSeq (mAsg (mCall 1 r_greatest_divisor (mCons (mVar 12) mNil)) (mgName 13)) t_endless_by_14)
def t_endless_by_12 : MS := (mSeq (mAsg (mLc [14, 11] (mIter (mVar 8)) (mgTup 2 (mgCons (mgName 14) (mgCons (mgName 11) mgNil))) mYes (mOp mulD (mVar 14) (mOp fdivD (mVar 9) (mVar 11)))) (mgName 12)) t_endless_by_13)
def t_endless_by_10 : MS := (mSeq l_endless_by_10 t_endless_by_12)
def t_endless_by_9 : MS := (mSeq (mAsg (mC (.int 1)) (mgName 9)) t_endless_by_10)
def t_endless_by_8 : MS := (mSeq (mAsg (mLst (mCons (mVar 6) (mCons (mCall 2 r_minus (mCons (mVar 7) (mCons (mVar 4) mNil))) (mCons (mCall 2 r_minus (mCons (mC (.tup [.int 0, .int 1])) (mCons (mVar 5) mNil))) mNil)))) (mgName 8)) t_endless_by_9)
def t_endless_by_7 : MS := (mSeq (mAsg (mVar 1) (mgTup 4 (mgCons (mgName 4) (mgCons (mgName 5) (mgCons (mgName 6) (mgCons (mgName 7) mgNil)))))) t_endless_by_8)
def t_endless_by_2 : MS := (mSeq l_endless_by_2 t_endless_by_7)
def r_endless_by : MF := mDef backF 1 16 ((mSeq (mAsg (mTup (mCons (mC (.tup [.int 1, .int 1])) (mCons (mC (.tup [.int 0, .int 1])) (mCons (mC (.tup [.int 0, .int 1])) (mCons (mC (.tup [.int 1, .int 1])) mNil))))) (mgName 1)) t_endless_by_2))
theorem ok_endless_by (T : Top G.K mg G) : FnD P w G.K mg base G 5 "endless_by" 1 r_endless_by := by
  exact def_e rfl (back := backF) (N := n_endless_by) (ps := p_endless_by) backF_ok T.f_endless_by sc_endless_by (fun _ _ _ _ _ _ us hl => match us, hl with | [_], _ => rfl) (fun f cdv A outer s H E hr W => ⟨_, (jss_cons (js_set (i := 1) sc_endless_by.nd (je_tup (ja_cons (je_glb T.g_ONE) (ja_cons (je_glb T.g_ZERO) (ja_cons (je_glb T.g_ZERO) (ja_cons (je_glb T.g_ONE) ja_nil)))))) (jss_cons (js_for rfl (ji_any (je_var 0)) (jg_tup (n := 2) rfl (jgs_cons (jg_name (i := 2) sc_endless_by.nd) (jgs_cons (jg_name (i := 3) sc_endless_by.nd) jgs_nil))) (jss_one (js_if (jt_cmp (op_eqK (by rfl) hr.units) s_eq (je_var 2) je_str) (jss_one (js_set (i := 1) sc_endless_by.nd (je_call ((ok_product T).mono (by decide)) hr (ja_cons (je_var 1) (ja_cons (je_tup (ja_cons (je_glb T.g_ONE) (ja_cons (je_var 3) (ja_cons (je_glb T.g_ZERO) (ja_cons (je_glb T.g_ONE) ja_nil))))) ja_nil))))) (jss_one (js_set (i := 1) sc_endless_by.nd (je_call ((ok_product T).mono (by decide)) hr (ja_cons (je_var 1) (ja_cons (je_tup (ja_cons (je_var 3) (ja_cons (je_glb T.g_ZERO) (ja_cons (je_glb T.g_ONE) (ja_cons (je_var 3) ja_nil))))) ja_nil)))))))) (jss_cons (js_asg (je_var 1) (jg_tup (n := 4) rfl (jgs_cons (jg_name (i := 4) sc_endless_by.nd) (jgs_cons (jg_name (i := 5) sc_endless_by.nd) (jgs_cons (jg_name (i := 6) sc_endless_by.nd) (jgs_cons (jg_name (i := 7) sc_endless_by.nd) jgs_nil)))))) (jss_cons (js_set (i := 8) sc_endless_by.nd (je_lst (ja_cons (je_var 6) (ja_cons (je_call ((ok_minus T).mono (by decide)) hr (ja_cons (je_var 7) (ja_cons (je_var 4) ja_nil))) (ja_cons (je_call ((ok_minus T).mono (by decide)) hr (ja_cons (je_glb T.g_ZERO) (ja_cons (je_var 5) ja_nil))) ja_nil))))) (jss_cons (js_set (i := 9) sc_endless_by.nd je_int) (jss_cons (js_for rfl (ji_any (je_var 8)) (jg_tup (n := 2) rfl (jgs_cons (jg_name (i := 10) sc_endless_by.nd) (jgs_cons (jg_name (i := 11) sc_endless_by.nd) jgs_nil))) (jss_one (js_set (i := 9) sc_endless_by.nd (je_op (op_mulA (by rfl)) s_mul (je_var 9) (je_var 11))))) (jss_cons (js_setLc (i := 12) rfl (own := [("p", 14), ("q", 11)]) sc_endless_by.nd (ji_any (je_var 8)) (blkOk_by (N := n_endless_by) (sc := defScope s_endless_by) (by decide +kernel)) (keeps_tup (keeps_cons (by decide) (keeps_cons (by decide) (keeps_nil)))) (fun _ _ _ _ _ => (jg_tup (n := 2) rfl (jgs_cons (jg_name (i := 14) sc_endless_by.nd) (jgs_cons (jg_name (i := 11) sc_endless_by.nd) jgs_nil)))) (fun _ _ _ _ _ => jts_nil) (fun _ _ _ _ _ => (je_op (op_mulA (by rfl)) s_mul (je_var 14) (je_op op_fdivA s_fdiv (je_var 9) (je_var 11))))) (jss_cons (js_set (i := 13) sc_endless_by.nd (je_call ((ok_greatest_divisor T).mono (by decide)) hr (ja_cons (je_var 12) ja_nil))) (jss_one (js_ret (je_op (op_addA (by rfl)) s_add (je_tup (ja_cons je_str ja_nil)) (je_ct (call_tupleK (by rfl)) sc_tuple T.b_tuple (ja_cons (je_lc rfl (own := [("one", 15)]) sc_endless_by.nd (ji_any (je_var 12)) (blkOk_by (N := n_endless_by) (sc := defScope s_endless_by) (by decide +kernel)) (keeps_name (by decide)) (fun _ _ _ _ _ => (jg_name (i := 15) sc_endless_by.nd)) (fun _ _ _ _ _ => jts_nil) (fun _ _ _ _ _ => (je_op op_fdivA s_fdiv (je_var 15) (je_var 13)))) ja_nil)))))))))))))⟩)
/-- endless(ladder) -/
def r_endless : MF := mDef backF 1 4 ((mSeq (mExpr (mCall 1 r_look_at_ladder (mCons (mVar 0) mNil))) (mSeq (mAsg (mLc [2, 3] (mIter (mVar 0)) (mgTup 2 (mgCons (mgName 2) (mgCons (mgName 3) mgNil))) mYes (mVar 2)) (mgName 1)) (mSeq (mIfS (mOr (mTest (mOp ninD (mC (.str "row")) (mVar 1))) (mTest (mOp ninD (mC (.str "beside")) (mVar 1)))) (mRaise "NoSuch") mNext) (mRet (mCall 1 r_endless_by (mCons (mVar 0) mNil)))))))
theorem ok_endless (T : Top G.K mg G) : FnD P w G.K mg base G 6 "endless" 1 r_endless := by
  exact def_e rfl (back := backF) (N := n_endless) (ps := p_endless) backF_ok T.f_endless sc_endless (fun _ _ _ _ _ _ us hl => match us, hl with | [_], _ => rfl) (fun f cdv A outer s H E hr W => ⟨_, (jss_cons (js_expr (je_call ((ok_look_at_ladder T).mono (by decide)) hr (ja_cons (je_var 0) ja_nil))) (jss_cons (js_setLc (i := 1) rfl (own := [("word", 2), ("_", 3)]) sc_endless.nd (ji_any (je_var 0)) (blkOk_by (N := n_endless) (sc := defScope s_endless) (by decide +kernel)) (keeps_tup (keeps_cons (by decide) (keeps_cons (by decide) (keeps_nil)))) (fun _ _ _ _ _ => (jg_tup (n := 2) rfl (jgs_cons (jg_name (i := 2) sc_endless.nd) (jgs_cons (jg_name (i := 3) sc_endless.nd) jgs_nil)))) (fun _ _ _ _ _ => jts_nil) (fun _ _ _ _ _ => (je_var 2))) (jss_cons (js_if ((jw_or (jt_cmp (op_ninA (by rfl) (room65 hr)) s_nin je_str (je_var 1)) (jw_or1 (jt_cmp (op_ninA (by rfl) (room65 hr)) s_nin je_str (je_var 1))))).jt (jss_one (js_raise T.c_NoSuch rfl)) jss_nil) (jss_one (js_ret (je_call ((ok_endless_by T).mono (by decide)) hr (ja_cons (je_var 0) ja_nil)))))))⟩)
/-- _law_draw(bag, many) -/
def r__law_draw : MF := mDef backF 2 4 ((mSeq (mIfS (mTest (mOp eqD (mOp ixD (mVar 0) (mC (.int 0))) (mC (.int 0)))) (mSeq (mAsg (mOp modD (mCB intF (mCons (mOp addD (mOp addD (mOp mulD (mOp ixD (mVar 0) (mC (.int 1))) (mC (.int 48271))) (mOp mulD (mOp ixD (mVar 0) (mC (.int 2))) (mC (.int 69621)))) (mC (.int 11))) mNil)) (mC (.int 2147483647))) (mgName 2)) (mSeq (mAsg (mOp addD (mOp mulD (mVar 2) (mC (.int 2147483629))) (mOp modD (mCB intF (mCons (mOp addD (mOp mulD (mVar 2) (mVar 2)) (mOp mulD (mOp ixD (mVar 0) (mC (.int 2))) (mC (.int 16807)))) mNil)) (mC (.int 2147483629)))) (mgSub setD (mVar 0) (mC (.int 0)))) (mAsg (mVar 2) (mgSub setD (mVar 0) (mC (.int 1)))))) mNext) (mSeq (mAsg (mOp ixD (mVar 0) (mC (.int 0))) (mgName 3)) (mSeq (mAsg (mOp fdivD (mVar 3) (mVar 1)) (mgSub setD (mVar 0) (mC (.int 0)))) (mRet (mOp modD (mCB intF (mCons (mVar 3) mNil)) (mVar 1)))))))
theorem ok__law_draw (T : Top G.K mg G) : FnD P w G.K mg base G 1 "_law_draw" 2 r__law_draw := by
  exact def_e rfl (back := backF) (N := n__law_draw) (ps := p__law_draw) backF_ok T.f__law_draw sc__law_draw (fun _ _ _ _ _ _ us hl => match us, hl with | [_, _], _ => rfl) (fun f cdv A outer s H E hr W => ⟨_, (jss_cons (js_if (jt_cmp (op_eqK (by rfl) hr.units) s_eq (je_ix (je_var 0) je_int) je_int) (jss_cons (js_set (i := 2) sc__law_draw.nd (je_op op_modN s_mod (je_ct call_int1 sc_int T.b_int (ja_cons (je_op (op_addA (by rfl)) s_add (je_op (op_addA (by rfl)) s_add (je_op (op_mulA (by rfl)) s_mul (je_ix (je_var 0) je_int) je_int) (je_op (op_mulA (by rfl)) s_mul (je_ix (je_var 0) je_int) je_int)) je_int) ja_nil)) je_int)) (jss_cons (js_asg (je_op (op_addA (by rfl)) s_add (je_op (op_mulA (by rfl)) s_mul (je_var 2) je_int) (je_op op_modN s_mod (je_ct call_int1 sc_int T.b_int (ja_cons (je_op (op_addA (by rfl)) s_add (je_op (op_mulA (by rfl)) s_mul (je_var 2) (je_var 2)) (je_op (op_mulA (by rfl)) s_mul (je_ix (je_var 0) je_int) je_int)) ja_nil)) je_int)) (jg_sub set_list s_set (je_var 0) je_int)) (jss_one (js_asg (je_var 2) (jg_sub set_list s_set (je_var 0) je_int))))) jss_nil) (jss_cons (js_set (i := 3) sc__law_draw.nd (je_ix (je_var 0) je_int)) (jss_cons (js_asg (je_op op_fdivA s_fdiv (je_var 3) (je_var 1)) (jg_sub set_list s_set (je_var 0) je_int)) (jss_one (js_ret (je_op op_modN s_mod (je_ct call_int1 sc_int T.b_int (ja_cons (je_var 3) ja_nil)) (je_var 1)))))))⟩)
/-- _law_ladder(bag) -/
def b__law_ladder_2 : MS := (mExpr (mMeth "list" appendM (mVar 1) (mCons (mTup (mCons (mOp ixD (mLst (mCons (mC (.str "row")) (mCons (mC (.str "beside")) mNil))) (mCall 2 r__law_draw (mCons (mVar 0) (mCons (mC (.int 2)) mNil)))) (mCons (mOp ixD (mLst (mCons (mTup (mCons (mC (.int 1)) (mCons (mC (.int 1)) mNil))) (mCons (mTup (mCons (mC (.int 2)) (mCons (mC (.int 1)) mNil))) (mCons (mTup (mCons (mC (.int 1)) (mCons (mC (.int 2)) mNil))) (mCons (mTup (mCons (mC (.int 3)) (mCons (mC (.int 4)) mNil))) (mCons (mTup (mCons (mC (.int 5)) (mCons (mC (.int 1)) mNil))) mNil)))))) (mCall 2 r__law_draw (mCons (mVar 0) (mCons (mC (.int 5)) mNil)))) mNil))) mNil)))
def l__law_ladder_2 : MS := (mFor (mRng1 (mCons (mOp addD (mC (.int 1)) (mCall 2 r__law_draw (mCons (mVar 0) (mCons (mC (.int 4)) mNil)))) mNil)) (mgName 2) b__law_ladder_2)
def t__law_ladder_9 : MS := (mRet (mCB tupleF (mCons (mVar 1) mNil)))
def t__law_ladder_7 : MS := (mSeq (mIfS (mTest (mOp ninD (mC (.str "beside")) (mVar 3))) (mExpr (mMeth "list" appendM (mVar 1) (mCons (mTup (mCons (mC (.str "beside")) (mCons (mTup (mCons (mC (.int 3)) (mCons (mC (.int 2)) mNil))) mNil))) mNil))) mNext) t__law_ladder_9)
def t__law_ladder_5 : MS := (mSeq (mIfS (mTest (mOp ninD (mC (.str "row")) (mVar 3))) (mExpr (mMeth "list" appendM (mVar 1) (mCons (mTup (mCons (mC (.str "row")) (mCons (mTup (mCons (mC (.int 2)) (mCons (mC (.int 3)) mNil))) mNil))) mNil))) mNext) t__law_ladder_7)
def t__law_ladder_4 : MS := (mSeq (mAsg (mLcR [4, 5] 1 (mgTup 2 (mgCons (mgName 4) (mgCons (mgName 5) mgNil))) mYes (mVar 4)) (mgName 3)) t__law_ladder_5)
def t__law_ladder_2 : MS := (mSeq l__law_ladder_2 t__law_ladder_4)
def r__law_ladder : MF := mDef backF 1 6 ((mSeq (mAsg (mNew mNil) (mgName 1)) t__law_ladder_2))
theorem ok__law_ladder (T : Top G.K mg G) : FnD P w G.K mg base G 2 "_law_ladder" 1 r__law_ladder := by
  exact def_e rfl (back := backF) (N := n__law_ladder) (ps := p__law_ladder) backF_ok T.f__law_ladder sc__law_ladder (fun _ _ _ _ _ _ us hl => match us, hl with | [_], _ => rfl) (fun f cdv A outer s H E hr W => ⟨_, (jss_cons (js_set (i := 1) sc__law_ladder.nd (je_new ja_nil)) (jss_cons (js_for rfl (ji_rng1 T.b_range (ja_cons (je_op (op_addA (by rfl)) s_add je_int (je_call ((ok__law_draw T).mono (by decide)) hr (ja_cons (je_var 0) (ja_cons je_int ja_nil)))) ja_nil)) (jg_name (i := 2) sc__law_ladder.nd) (jss_one (js_expr (je_meth PySem.F.plainAttrs_list PySem.F.slot_list_append PySem.F.type_list_append mt_append sm_append (je_var 1) (ja_cons (je_tup (ja_cons (je_ix (je_lst (ja_cons je_str (ja_cons je_str ja_nil))) (je_call ((ok__law_draw T).mono (by decide)) hr (ja_cons (je_var 0) (ja_cons je_int ja_nil)))) (ja_cons (je_ix (je_lst (ja_cons (je_tup (ja_cons je_int (ja_cons je_int ja_nil))) (ja_cons (je_tup (ja_cons je_int (ja_cons je_int ja_nil))) (ja_cons (je_tup (ja_cons je_int (ja_cons je_int ja_nil))) (ja_cons (je_tup (ja_cons je_int (ja_cons je_int ja_nil))) (ja_cons (je_tup (ja_cons je_int (ja_cons je_int ja_nil))) ja_nil)))))) (je_call ((ok__law_draw T).mono (by decide)) hr (ja_cons (je_var 0) (ja_cons je_int ja_nil)))) ja_nil))) ja_nil))))) (jss_cons (js_setLcR (i := 3) 1 rfl (own := [("word", 4), ("r", 5)]) sc__law_ladder.nd  (blkOk_by (N := n__law_ladder) (sc := defScope s__law_ladder) (by decide +kernel)) (keeps_tup (keeps_cons (by decide) (keeps_cons (by decide) (keeps_nil)))) (fun _ _ _ _ _ => (jg_tup (n := 2) rfl (jgs_cons (jg_name (i := 4) sc__law_ladder.nd) (jgs_cons (jg_name (i := 5) sc__law_ladder.nd) jgs_nil)))) (fun _ _ _ _ _ => jts_nil) (fun _ _ _ _ _ => (je_var 4))) (jss_cons (js_if (jt_cmp (op_ninA (by rfl) (room65 hr)) s_nin je_str (je_var 3)) (jss_one (js_expr (je_meth PySem.F.plainAttrs_list PySem.F.slot_list_append PySem.F.type_list_append mt_append sm_append (je_var 1) (ja_cons (je_tup (ja_cons je_str (ja_cons (je_tup (ja_cons je_int (ja_cons je_int ja_nil))) ja_nil))) ja_nil)))) jss_nil) (jss_cons (js_if (jt_cmp (op_ninA (by rfl) (room65 hr)) s_nin je_str (je_var 3)) (jss_one (js_expr (je_meth PySem.F.plainAttrs_list PySem.F.slot_list_append PySem.F.type_list_append mt_append sm_append (je_var 1) (ja_cons (je_tup (ja_cons je_str (ja_cons (je_tup (ja_cons je_int (ja_cons je_int ja_nil))) ja_nil))) ja_nil)))) jss_nil) (jss_one (js_ret (je_ct (call_tupleK (by rfl)) sc_tuple T.b_tuple (ja_cons (je_var 1) ja_nil)))))))))⟩)
/-- _law_whole(n) -/
def b__law_whole_3 : MS := (mAsg (mOp mulD (mC (.int 2)) (mVar 2)) (mgName 2))
def l__law_whole_3 : MS := (mWhile (mTest (mOp leD (mOp mulD (mVar 2) (mVar 2)) (mVar 0))) b__law_whole_3)
def t__law_whole_8 : MS := (mAsg (mOp fdivD (mVar 2) (mC (.int 2))) (mgName 2))
def b__law_whole_5 : MS := (mSeq (mIfS (mTest (mOp leD (mOp mulD (mOp addD (mVar 1) (mVar 2)) (mOp addD (mVar 1) (mVar 2))) (mVar 0))) (mAsg (mOp addD (mVar 1) (mVar 2)) (mgName 1)) mNext) t__law_whole_8)
def l__law_whole_5 : MS := (mWhile (mTest (mOp gtD (mVar 2) (mC (.int 0)))) b__law_whole_5)
def t__law_whole_9 : MS := (mRet (mIf (mTest (mOp eqD (mOp mulD (mVar 1) (mVar 1)) (mVar 0))) (mVar 1) (mC .non)))
def t__law_whole_5 : MS := (mSeq l__law_whole_5 t__law_whole_9)
def t__law_whole_3 : MS := (mSeq l__law_whole_3 t__law_whole_5)
def t__law_whole_2 : MS := (mSeq (mAsg (mC (.int 1)) (mgName 2)) t__law_whole_3)
def r__law_whole : MF := mDef backF 1 3 ((mSeq (mAsg (mC (.int 0)) (mgName 1)) t__law_whole_2))
theorem ok__law_whole (T : Top G.K mg G) : FnD P w G.K mg base G 1 "_law_whole" 1 r__law_whole := by
  exact def_e rfl (back := backF) (N := n__law_whole) (ps := p__law_whole) backF_ok T.f__law_whole sc__law_whole (fun _ _ _ _ _ _ us hl => match us, hl with | [_], _ => rfl) (fun f cdv A outer s H E hr W => ⟨_, (jss_cons (js_set (i := 1) sc__law_whole.nd je_int) (jss_cons (js_set (i := 2) sc__law_whole.nd je_int) (jss_cons (js_while (jt_cmp op_le s_cmp (je_op (op_mulA (by rfl)) s_mul (je_var 2) (je_var 2)) (je_var 0)) (jss_one (js_set (i := 2) sc__law_whole.nd (je_op (op_mulA (by rfl)) s_mul je_int (je_var 2))))) (jss_cons (js_while (jt_cmp op_gt s_cmp (je_var 2) je_int) (jss_cons (js_if (jt_cmp op_le s_cmp (je_op (op_mulA (by rfl)) s_mul (je_op (op_addA (by rfl)) s_add (je_var 1) (je_var 2)) (je_op (op_addA (by rfl)) s_add (je_var 1) (je_var 2))) (je_var 0)) (jss_one (js_set (i := 1) sc__law_whole.nd (je_op (op_addA (by rfl)) s_add (je_var 1) (je_var 2)))) jss_nil) (jss_one (js_set (i := 2) sc__law_whole.nd (je_op op_fdivA s_fdiv (je_var 2) je_int))))) (jss_one (js_ret (je_if (jt_cmp (op_eqK (by rfl) hr.units) s_eq (je_op (op_mulA (by rfl)) s_mul (je_var 1) (je_var 1)) (je_var 0)) (je_var 1) je_non)))))))⟩)
/-- _law_fr(p, q) -/
def r__law_fr : MF := mDef backF 2 4 ((mSeq (mPar 2 3 (mCons (mCB absF (mCons (mVar 0) mNil)) (mCons (mCB absF (mCons (mVar 1) mNil)) mNil))) (mSeq (mWhile (mTest (mOp neD (mVar 3) (mC (.int 0)))) (mPar 2 3 (mCons (mVar 3) (mCons (mOp modD (mVar 2) (mVar 3)) mNil)))) (mSeq (mIfS (mTest (mOp ltD (mVar 1) (mC (.int 0)))) (mAsg (mOp subD (mC (.int 0)) (mVar 2)) (mgName 2)) mNext) (mRet (mTup (mCons (mOp fdivD (mVar 0) (mVar 2)) (mCons (mOp fdivD (mVar 1) (mVar 2)) mNil))))))))
theorem ok__law_fr (T : Top G.K mg G) : FnD P w G.K mg base G 1 "_law_fr" 2 r__law_fr := by
  exact def_e rfl (back := backF) (N := n__law_fr) (ps := p__law_fr) backF_ok T.f__law_fr sc__law_fr (fun _ _ _ _ _ _ us hl => match us, hl with | [_, _], _ => rfl) (fun f cdv A outer s H E hr W => ⟨_, (jss_cons (js_par (i := 2) (j := 3) rfl sc__law_fr.nd (ja_cons (je_cb call_abs sc_abs T.b_abs (ja_cons (je_var 0) ja_nil)) (ja_cons (je_cb call_abs sc_abs T.b_abs (ja_cons (je_var 1) ja_nil)) ja_nil))) (jss_cons (js_while (jt_cmp (op_neK (by rfl) hr.units) s_ne (je_var 3) je_int) (jss_one (js_par (i := 2) (j := 3) rfl sc__law_fr.nd (ja_cons (je_var 3) (ja_cons (je_op op_modN s_mod (je_var 2) (je_var 3)) ja_nil))))) (jss_cons (js_if (jt_cmp op_lt s_cmp (je_var 1) je_int) (jss_one (js_set (i := 2) sc__law_fr.nd (je_op op_sub s_sub je_int (je_var 2)))) jss_nil) (jss_one (js_ret (je_tup (ja_cons (je_op op_fdivA s_fdiv (je_var 0) (je_var 2)) (ja_cons (je_op op_fdivA s_fdiv (je_var 1) (je_var 2)) ja_nil))))))))⟩)
/-- _law_add(x, y) -/
def r__law_add : MF := mDef backF 2 2 ((mRet (mCall 2 r__law_fr (mCons (mOp addD (mOp mulD (mOp ixD (mVar 0) (mC (.int 0))) (mOp ixD (mVar 1) (mC (.int 1)))) (mOp mulD (mOp ixD (mVar 1) (mC (.int 0))) (mOp ixD (mVar 0) (mC (.int 1))))) (mCons (mOp mulD (mOp ixD (mVar 0) (mC (.int 1))) (mOp ixD (mVar 1) (mC (.int 1)))) mNil)))))
theorem ok__law_add (T : Top G.K mg G) : FnD P w G.K mg base G 2 "_law_add" 2 r__law_add := by
  exact def_e rfl (back := backF) (N := n__law_add) (ps := p__law_add) backF_ok T.f__law_add sc__law_add (fun _ _ _ _ _ _ us hl => match us, hl with | [_, _], _ => rfl) (fun f cdv A outer s H E hr W => ⟨_, (jss_one (js_ret (je_call ((ok__law_fr T).mono (by decide)) hr (ja_cons (je_op (op_addA (by rfl)) s_add (je_op (op_mulA (by rfl)) s_mul (je_ix (je_var 0) je_int) (je_ix (je_var 1) je_int)) (je_op (op_mulA (by rfl)) s_mul (je_ix (je_var 1) je_int) (je_ix (je_var 0) je_int))) (ja_cons (je_op (op_mulA (by rfl)) s_mul (je_ix (je_var 0) je_int) (je_ix (je_var 1) je_int)) ja_nil)))))⟩)
/-- _law_div(x, y) -/
def r__law_div : MF := mDef backF 2 2 ((mRet (mCall 2 r__law_fr (mCons (mOp mulD (mOp ixD (mVar 0) (mC (.int 0))) (mOp ixD (mVar 1) (mC (.int 1)))) (mCons (mOp mulD (mOp ixD (mVar 0) (mC (.int 1))) (mOp ixD (mVar 1) (mC (.int 0)))) mNil)))))
theorem ok__law_div (T : Top G.K mg G) : FnD P w G.K mg base G 2 "_law_div" 2 r__law_div := by
  exact def_e rfl (back := backF) (N := n__law_div) (ps := p__law_div) backF_ok T.f__law_div sc__law_div (fun _ _ _ _ _ _ us hl => match us, hl with | [_, _], _ => rfl) (fun f cdv A outer s H E hr W => ⟨_, (jss_one (js_ret (je_call ((ok__law_fr T).mono (by decide)) hr (ja_cons (je_op (op_mulA (by rfl)) s_mul (je_ix (je_var 0) je_int) (je_ix (je_var 1) je_int)) (ja_cons (je_op (op_mulA (by rfl)) s_mul (je_ix (je_var 0) je_int) (je_ix (je_var 1) je_int)) ja_nil)))))⟩)
/-- _law_mul(x, y) -/
def r__law_mul : MF := mDef backF 2 2 ((mRet (mCall 2 r__law_fr (mCons (mOp mulD (mOp ixD (mVar 0) (mC (.int 0))) (mOp ixD (mVar 1) (mC (.int 0)))) (mCons (mOp mulD (mOp ixD (mVar 0) (mC (.int 1))) (mOp ixD (mVar 1) (mC (.int 1)))) mNil)))))
theorem ok__law_mul (T : Top G.K mg G) : FnD P w G.K mg base G 2 "_law_mul" 2 r__law_mul := by
  exact def_e rfl (back := backF) (N := n__law_mul) (ps := p__law_mul) backF_ok T.f__law_mul sc__law_mul (fun _ _ _ _ _ _ us hl => match us, hl with | [_, _], _ => rfl) (fun f cdv A outer s H E hr W => ⟨_, (jss_one (js_ret (je_call ((ok__law_fr T).mono (by decide)) hr (ja_cons (je_op (op_mulA (by rfl)) s_mul (je_ix (je_var 0) je_int) (je_ix (je_var 1) je_int)) (ja_cons (je_op (op_mulA (by rfl)) s_mul (je_ix (je_var 0) je_int) (je_ix (je_var 1) je_int)) ja_nil)))))⟩)
/-- _law_after(ladder, times_v, x) -/
def b__law_after_2 : MS := (mIfS (mTest (mOp eqD (mVar 4) (mC (.str "row")))) (mAsg (mIf (mTest (mOp isND (mVar 2) (mC .non))) (mC .non) (mCall 2 r__law_add (mCons (mVar 2) (mCons (mVar 5) mNil)))) (mgName 2)) (mIfS (mTest (mOp isND (mVar 2) (mC .non))) (mAsg (mVar 5) (mgName 2)) (mAsg (mCall 2 r__law_div (mCons (mCall 2 r__law_mul (mCons (mVar 2) (mCons (mVar 5) mNil))) (mCons (mCall 2 r__law_add (mCons (mVar 2) (mCons (mVar 5) mNil))) mNil))) (mgName 2))))
def l__law_after_2 : MS := (mFor (mIter (mUn revD (mVar 0))) (mgTup 2 (mgCons (mgName 4) (mgCons (mgName 5) mgNil))) b__law_after_2)
def l__law_after_1 : MS := (mFor (mRng1 (mCons (mVar 1) mNil)) (mgName 3) l__law_after_2)
def t__law_after_9 : MS := (mRet (mVar 2))
def r__law_after : MF := mDef backF 3 6 ((mSeq l__law_after_1 t__law_after_9))
theorem ok__law_after (T : Top G.K mg G) : FnD P w G.K mg base G 3 "_law_after" 3 r__law_after := by
  exact def_e rfl (back := backF) (N := n__law_after) (ps := p__law_after) backF_ok T.f__law_after sc__law_after (fun _ _ _ _ _ _ us hl => match us, hl with | [_, _, _], _ => rfl) (fun f cdv A outer s H E hr W => ⟨_, (jss_cons (js_for rfl (ji_rng1 T.b_range (ja_cons (je_var 1) ja_nil)) (jg_name (i := 3) sc__law_after.nd) (jss_one (js_for rfl (ji_any (je_rev (je_var 0))) (jg_tup (n := 2) rfl (jgs_cons (jg_name (i := 4) sc__law_after.nd) (jgs_cons (jg_name (i := 5) sc__law_after.nd) jgs_nil))) (jss_one (js_if (jt_cmp (op_eqK (by rfl) hr.units) s_eq (je_var 4) je_str) (jss_one (js_set (i := 2) sc__law_after.nd (je_if (jt_cmp op_isN s_isN (je_var 2) je_non) je_non (je_call ((ok__law_add T).mono (by decide)) hr (ja_cons (je_var 2) (ja_cons (je_var 5) ja_nil)))))) (jss_one (js_if (jt_cmp op_isN s_isN (je_var 2) je_non) (jss_one (js_set (i := 2) sc__law_after.nd (je_var 5))) (jss_one (js_set (i := 2) sc__law_after.nd (je_call ((ok__law_div T).mono (by decide)) hr (ja_cons (je_call ((ok__law_mul T).mono (by decide)) hr (ja_cons (je_var 2) (ja_cons (je_var 5) ja_nil))) (ja_cons (je_call ((ok__law_add T).mono (by decide)) hr (ja_cons (je_var 2) (ja_cons (je_var 5) ja_nil))) ja_nil)))))))))))) (jss_one (js_ret (je_var 2))))⟩)
/-- _law_sub(x, y) -/
def r__law_sub : MF := mDef backF 2 2 ((mRet (mCall 2 r__law_fr (mCons (mOp subD (mOp mulD (mOp ixD (mVar 0) (mC (.int 0))) (mOp ixD (mVar 1) (mC (.int 1)))) (mOp mulD (mOp ixD (mVar 1) (mC (.int 0))) (mOp ixD (mVar 0) (mC (.int 1))))) (mCons (mOp mulD (mOp ixD (mVar 0) (mC (.int 1))) (mOp ixD (mVar 1) (mC (.int 1)))) mNil)))))
theorem ok__law_sub (T : Top G.K mg G) : FnD P w G.K mg base G 2 "_law_sub" 2 r__law_sub := by
  exact def_e rfl (back := backF) (N := n__law_sub) (ps := p__law_sub) backF_ok T.f__law_sub sc__law_sub (fun _ _ _ _ _ _ us hl => match us, hl with | [_, _], _ => rfl) (fun f cdv A outer s H E hr W => ⟨_, (jss_one (js_ret (je_call ((ok__law_fr T).mono (by decide)) hr (ja_cons (je_op op_sub s_sub (je_op (op_mulA (by rfl)) s_mul (je_ix (je_var 0) je_int) (je_ix (je_var 1) je_int)) (je_op (op_mulA (by rfl)) s_mul (je_ix (je_var 1) je_int) (je_ix (je_var 0) je_int))) (ja_cons (je_op (op_mulA (by rfl)) s_mul (je_ix (je_var 0) je_int) (je_ix (je_var 1) je_int)) ja_nil)))))⟩)
/-- _law_over(x, y, d) -/
def r__law_over : MF := mDef backF 3 9 ((mSeq (mAsg (mVar 0) (mgTup 2 (mgCons (mgName 3) (mgCons (mgName 4) mgNil)))) (mSeq (mAsg (mVar 1) (mgTup 2 (mgCons (mgName 5) (mgCons (mgName 6) mgNil)))) (mSeq (mAsg (mCall 2 r__law_sub (mCons (mCall 2 r__law_mul (mCons (mVar 5) (mCons (mVar 5) mNil))) (mCons (mCall 2 r__law_mul (mCons (mTup (mCons (mVar 2) (mCons (mC (.int 1)) mNil))) (mCons (mCall 2 r__law_mul (mCons (mVar 6) (mCons (mVar 6) mNil))) mNil))) mNil))) (mgName 7)) (mSeq (mAsg (mCall 2 r__law_sub (mCons (mCall 2 r__law_mul (mCons (mVar 3) (mCons (mVar 5) mNil))) (mCons (mCall 2 r__law_mul (mCons (mTup (mCons (mVar 2) (mCons (mC (.int 1)) mNil))) (mCons (mCall 2 r__law_mul (mCons (mVar 4) (mCons (mVar 6) mNil))) mNil))) mNil))) (mgName 8)) (mRet (mTup (mCons (mCall 2 r__law_div (mCons (mVar 8) (mCons (mVar 7) mNil))) (mCons (mCall 2 r__law_div (mCons (mCall 2 r__law_sub (mCons (mCall 2 r__law_mul (mCons (mVar 4) (mCons (mVar 5) mNil))) (mCons (mCall 2 r__law_mul (mCons (mVar 3) (mCons (mVar 6) mNil))) mNil))) (mCons (mVar 7) mNil))) mNil)))))))))
theorem ok__law_over (T : Top G.K mg G) : FnD P w G.K mg base G 3 "_law_over" 3 r__law_over := by
  exact def_e rfl (back := backF) (N := n__law_over) (ps := p__law_over) backF_ok T.f__law_over sc__law_over (fun _ _ _ _ _ _ us hl => match us, hl with | [_, _, _], _ => rfl) (fun f cdv A outer s H E hr W => ⟨_, (jss_cons (js_asg (je_var 0) (jg_tup (n := 2) rfl (jgs_cons (jg_name (i := 3) sc__law_over.nd) (jgs_cons (jg_name (i := 4) sc__law_over.nd) jgs_nil)))) (jss_cons (js_asg (je_var 1) (jg_tup (n := 2) rfl (jgs_cons (jg_name (i := 5) sc__law_over.nd) (jgs_cons (jg_name (i := 6) sc__law_over.nd) jgs_nil)))) (jss_cons (js_set (i := 7) sc__law_over.nd (je_call ((ok__law_sub T).mono (by decide)) hr (ja_cons (je_call ((ok__law_mul T).mono (by decide)) hr (ja_cons (je_var 5) (ja_cons (je_var 5) ja_nil))) (ja_cons (je_call ((ok__law_mul T).mono (by decide)) hr (ja_cons (je_tup (ja_cons (je_var 2) (ja_cons je_int ja_nil))) (ja_cons (je_call ((ok__law_mul T).mono (by decide)) hr (ja_cons (je_var 6) (ja_cons (je_var 6) ja_nil))) ja_nil))) ja_nil)))) (jss_cons (js_set (i := 8) sc__law_over.nd (je_call ((ok__law_sub T).mono (by decide)) hr (ja_cons (je_call ((ok__law_mul T).mono (by decide)) hr (ja_cons (je_var 3) (ja_cons (je_var 5) ja_nil))) (ja_cons (je_call ((ok__law_mul T).mono (by decide)) hr (ja_cons (je_tup (ja_cons (je_var 2) (ja_cons je_int ja_nil))) (ja_cons (je_call ((ok__law_mul T).mono (by decide)) hr (ja_cons (je_var 4) (ja_cons (je_var 6) ja_nil))) ja_nil))) ja_nil)))) (jss_one (js_ret (je_tup (ja_cons (je_call ((ok__law_div T).mono (by decide)) hr (ja_cons (je_var 8) (ja_cons (je_var 7) ja_nil))) (ja_cons (je_call ((ok__law_div T).mono (by decide)) hr (ja_cons (je_call ((ok__law_sub T).mono (by decide)) hr (ja_cons (je_call ((ok__law_mul T).mono (by decide)) hr (ja_cons (je_var 4) (ja_cons (je_var 5) ja_nil))) (ja_cons (je_call ((ok__law_mul T).mono (by decide)) hr (ja_cons (je_var 3) (ja_cons (je_var 6) ja_nil))) ja_nil))) (ja_cons (je_var 7) ja_nil))) ja_nil)))))))))⟩)
/-- _law_through(ladder, x, d) -/
def t__law_through_3 : MS := (mIfS (mTest (mOp eqD (mVar 3) (mC (.str "row")))) (mAsg (mVar 5) (mgName 1)) (mAsg (mCall 3 r__law_over (mCons (mTup (mCons (mCall 2 r__law_mul (mCons (mOp ixD (mVar 1) (mC (.int 0))) (mCons (mVar 4) mNil))) (mCons (mCall 2 r__law_mul (mCons (mOp ixD (mVar 1) (mC (.int 1))) (mCons (mVar 4) mNil))) mNil))) (mCons (mVar 5) (mCons (mVar 2) mNil)))) (mgName 1)))
def b__law_through_1 : MS := (mSeq (mAsg (mTup (mCons (mCall 2 r__law_add (mCons (mOp ixD (mVar 1) (mC (.int 0))) (mCons (mVar 4) mNil))) (mCons (mOp ixD (mVar 1) (mC (.int 1))) mNil))) (mgName 5)) t__law_through_3)
def l__law_through_1 : MS := (mFor (mIter (mUn revD (mVar 0))) (mgTup 2 (mgCons (mgName 3) (mgCons (mgName 4) mgNil))) b__law_through_1)
def t__law_through_7 : MS := (mRet (mVar 1))
def r__law_through : MF := mDef backF 3 6 ((mSeq l__law_through_1 t__law_through_7))
theorem ok__law_through (T : Top G.K mg G) : FnD P w G.K mg base G 4 "_law_through" 3 r__law_through := by
  exact def_e rfl (back := backF) (N := n__law_through) (ps := p__law_through) backF_ok T.f__law_through sc__law_through (fun _ _ _ _ _ _ us hl => match us, hl with | [_, _, _], _ => rfl) (fun f cdv A outer s H E hr W => ⟨_, (jss_cons (js_for rfl (ji_any (je_rev (je_var 0))) (jg_tup (n := 2) rfl (jgs_cons (jg_name (i := 3) sc__law_through.nd) (jgs_cons (jg_name (i := 4) sc__law_through.nd) jgs_nil))) (jss_cons (js_set (i := 5) sc__law_through.nd (je_tup (ja_cons (je_call ((ok__law_add T).mono (by decide)) hr (ja_cons (je_ix (je_var 1) je_int) (ja_cons (je_var 4) ja_nil))) (ja_cons (je_ix (je_var 1) je_int) ja_nil)))) (jss_one (js_if (jt_cmp (op_eqK (by rfl) hr.units) s_eq (je_var 3) je_str) (jss_one (js_set (i := 1) sc__law_through.nd (je_var 5))) (jss_one (js_set (i := 1) sc__law_through.nd (je_call ((ok__law_over T).mono (by decide)) hr (ja_cons (je_tup (ja_cons (je_call ((ok__law_mul T).mono (by decide)) hr (ja_cons (je_ix (je_var 1) je_int) (ja_cons (je_var 4) ja_nil))) (ja_cons (je_call ((ok__law_mul T).mono (by decide)) hr (ja_cons (je_ix (je_var 1) je_int) (ja_cons (je_var 4) ja_nil))) ja_nil))) (ja_cons (je_var 5) (ja_cons (je_var 2) ja_nil)))))))))) (jss_one (js_ret (je_var 1))))⟩)
/-- is_root(value) -/
def r_is_root : MF := mDef backF 1 2 ((mSeq (mIfS (mOr (mNot (mTest (mIsi "tuple" (mVar 0)))) (mOr (mTest (mOp neD (mCB lenF (mCons (mVar 0) mNil)) (mC (.int 4)))) (mOr (mNot (mTest (mIsi "str" (mOp ixD (mVar 0) (mC (.int 0)))))) (mTest (mOp neD (mOp ixD (mVar 0) (mC (.int 0))) (mC (.str "root"))))))) (mRet (mC (.bl false))) mNext) (mSeq (mIfS (mNot (mTest (mCB allF (mCons (mLc [1] (mIter (mSl slD (mVar 0) (mPart (mC (.int 1))) mNoPart)) (mgName 1) mYes (mAndV (mIsi "int" (mVar 1)) (mNotV (mIsi "bool" (mVar 1))))) mNil)))) (mRet (mC (.bl false))) mNext) (mRet (mAndV (mOp gtD (mOp ixD (mVar 0) (mC (.int 1))) (mC (.int 0))) (mAndV (mOp ltD (mOp ixD (mVar 0) (mC (.int 3))) (mC (.int 0))) (mOp eqD (mCall 1 r_greatest_divisor (mCons (mSl slD (mVar 0) (mPart (mC (.int 1))) mNoPart) mNil)) (mC (.int 1)))))))))
theorem ok_is_root (T : Top G.K mg G) : FnD P w G.K mg base G 2 "is_root" 1 r_is_root := by
  exact def_e rfl (back := backF) (N := n_is_root) (ps := p_is_root) backF_ok T.f_is_root sc_is_root (fun _ _ _ _ _ _ us hl => match us, hl with | [_], _ => rfl) (fun f cdv A outer s H E hr W => ⟨_, (jss_cons (js_if ((jw_or (jt_not (jt_val (je_isi (T := "tuple") (by decide) T.b_isinstance T.b_tuple (je_var 0)))) (jw_or (jt_cmp (op_neK (by rfl) hr.units) s_ne (je_cb (call_lenA (by rfl)) sc_len T.b_len (ja_cons (je_var 0) ja_nil)) je_int) (jw_or (jt_not (jt_val (je_isi (T := "str") (by decide) T.b_isinstance T.b_str (je_ix (je_var 0) je_int)))) (jw_or1 (jt_cmp (op_neK (by rfl) hr.units) s_ne (je_ix (je_var 0) je_int) je_str)))))).jt (jss_one (js_ret je_bl)) jss_nil) (jss_cons (js_if (jt_not (jt_val (je_cb (cr_allK (by rfl) rfl) sc_all T.b_all (ja_cons (je_lc rfl (own := [("one", 1)]) sc_is_root.nd (ji_any (je_sl (je_var 0) (jo_some je_int) jo_none)) (blkOk_by (N := n_is_root) (sc := defScope s_is_root) (by decide +kernel)) (keeps_name (by decide)) (fun _ _ _ _ _ => (jg_name (i := 1) sc_is_root.nd)) (fun _ _ _ _ _ => jts_nil) (fun _ _ _ _ _ => (je_and (je_isi (T := "int") (by decide) T.b_isinstance T.b_int (je_var 1)) (je_one (je_not (je_isi (T := "bool") (by decide) T.b_isinstance T.b_bool (je_var 1))))))) ja_nil)))) (jss_one (js_ret je_bl)) jss_nil) (jss_one (js_ret (je_and (je_cmp op_gt s_cmp (je_ix (je_var 0) je_int) je_int) (je_and (je_cmp op_lt s_cmp (je_ix (je_var 0) je_int) je_int) (je_one (je_cmp (op_eqK (by rfl) hr.units) s_eq (je_call ((ok_greatest_divisor T).mono (by decide)) hr (ja_cons (je_sl (je_var 0) (jo_some je_int) jo_none) ja_nil)) je_int))))))))⟩)
/-- look_at_root(root) -/
def r_look_at_root : MF := mDef backF 1 1 ((mIfS (mNot (mTest (mCall 1 r_is_root (mCons (mVar 0) mNil)))) (mRaise "BadValue") mNext))
theorem ok_look_at_root (T : Top G.K mg G) : FnD P w G.K mg base G 3 "look_at_root" 1 r_look_at_root := by
  exact def_e rfl (back := backF) (N := n_look_at_root) (ps := p_look_at_root) backF_ok T.f_look_at_root sc_look_at_root (fun _ _ _ _ _ _ us hl => match us, hl with | [_], _ => rfl) (fun f cdv A outer s H E hr W => ⟨_, (jss_one (js_if (jt_not (jt_val (je_call ((ok_is_root T).mono (by decide)) hr (ja_cons (je_var 0) ja_nil)))) (jss_one (js_raise T.c_BadValue rfl)) jss_nil))⟩)
/-- square_root(n) -/
def t_square_root_6 : MS := (mIfS (mTest (mOp leD (mOp mulD (mVar 3) (mVar 3)) (mVar 0))) (mAsg (mVar 3) (mgName 1)) (mAsg (mVar 3) (mgName 2)))
def b_square_root_4 : MS := (mSeq (mAsg (mOp fdivD (mOp addD (mVar 1) (mVar 2)) (mC (.int 2))) (mgName 3)) t_square_root_6)
def l_square_root_4 : MS := (mWhile (mTest (mOp gtD (mOp subD (mVar 2) (mVar 1)) (mC (.int 1)))) b_square_root_4)
def t_square_root_10 : MS := (mRet (mVar 1))
def t_square_root_4 : MS := (mSeq l_square_root_4 t_square_root_10)
def t_square_root_3 : MS := (mSeq (mPar 1 2 (mCons (mC (.int 1)) (mCons (mOp shlD (mC (.int 1)) (mOp addD (mOp fdivD (mOp addD (mUn bitsD (mVar 0)) (mC (.int 1))) (mC (.int 2))) (mC (.int 1)))) mNil))) t_square_root_4)
def r_square_root : MF := mDef backF 1 4 ((mSeq (mIfS (mTest (mOp ltD (mVar 0) (mC (.int 2)))) (mRet (mVar 0)) mNext) t_square_root_3))
theorem ok_square_root (T : Top G.K mg G) : FnD P w G.K mg base G 1 "square_root" 1 r_square_root := by
  exact def_e rfl (back := backF) (N := n_square_root) (ps := p_square_root) backF_ok T.f_square_root sc_square_root (fun _ _ _ _ _ _ us hl => match us, hl with | [_], _ => rfl) (fun f cdv A outer s H E hr W => ⟨_, (jss_cons (js_if (jt_cmp op_lt s_cmp (je_var 0) je_int) (jss_one (js_ret (je_var 0))) jss_nil) (jss_cons (js_par (i := 1) (j := 2) rfl sc_square_root.nd (ja_cons je_int (ja_cons (je_op op_shl s_shl je_int (je_op (op_addA (by rfl)) s_add (je_op op_fdivA s_fdiv (je_op (op_addA (by rfl)) s_add (je_bits (je_var 0)) je_int) je_int) je_int)) ja_nil))) (jss_cons (js_while (jt_cmp op_gt s_cmp (je_op op_sub s_sub (je_var 2) (je_var 1)) je_int) (jss_cons (js_set (i := 3) sc_square_root.nd (je_op op_fdivA s_fdiv (je_op (op_addA (by rfl)) s_add (je_var 1) (je_var 2)) je_int)) (jss_one (js_if (jt_cmp op_le s_cmp (je_op (op_mulA (by rfl)) s_mul (je_var 3) (je_var 3)) (je_var 0)) (jss_one (js_set (i := 1) sc_square_root.nd (je_var 3))) (jss_one (js_set (i := 2) sc_square_root.nd (je_var 3))))))) (jss_one (js_ret (je_var 1))))))⟩)
/-- fraction_by(root) -/
def r_fraction_by : MF := mDef backF 1 7 ((mSeq (mAsg (mVar 0) (mgTup 4 (mgCons (mgName 1) (mgCons (mgName 2) (mgCons (mgName 3) (mgCons (mgName 4) mgNil)))))) (mSeq (mAsg (mOp subD (mOp mulD (mVar 3) (mVar 3)) (mOp mulD (mOp mulD (mC (.int 4)) (mVar 2)) (mVar 4))) (mgName 5)) (mSeq (mAsg (mCall 1 r_square_root (mCons (mVar 5) mNil)) (mgName 6)) (mSeq (mIfS (mTest (mOp neD (mOp mulD (mVar 6) (mVar 6)) (mVar 5))) (mRet (mC .non)) mNext) (mRet (mCall 2 r_fraction (mCons (mOp subD (mVar 6) (mVar 3)) (mCons (mOp mulD (mC (.int 2)) (mVar 2)) mNil)))))))))
theorem ok_fraction_by (T : Top G.K mg G) : FnD P w G.K mg base G 3 "fraction_by" 1 r_fraction_by := by
  exact def_e rfl (back := backF) (N := n_fraction_by) (ps := p_fraction_by) backF_ok T.f_fraction_by sc_fraction_by (fun _ _ _ _ _ _ us hl => match us, hl with | [_], _ => rfl) (fun f cdv A outer s H E hr W => ⟨_, (jss_cons (js_asg (je_var 0) (jg_tup (n := 4) rfl (jgs_cons (jg_name (i := 1) sc_fraction_by.nd) (jgs_cons (jg_name (i := 2) sc_fraction_by.nd) (jgs_cons (jg_name (i := 3) sc_fraction_by.nd) (jgs_cons (jg_name (i := 4) sc_fraction_by.nd) jgs_nil)))))) (jss_cons (js_set (i := 5) sc_fraction_by.nd (je_op op_sub s_sub (je_op (op_mulA (by rfl)) s_mul (je_var 3) (je_var 3)) (je_op (op_mulA (by rfl)) s_mul (je_op (op_mulA (by rfl)) s_mul je_int (je_var 2)) (je_var 4)))) (jss_cons (js_set (i := 6) sc_fraction_by.nd (je_call ((ok_square_root T).mono (by decide)) hr (ja_cons (je_var 5) ja_nil))) (jss_cons (js_if (jt_cmp (op_neK (by rfl) hr.units) s_ne (je_op (op_mulA (by rfl)) s_mul (je_var 6) (je_var 6)) (je_var 5)) (jss_one (js_ret je_non)) jss_nil) (jss_one (js_ret (je_call ((ok_fraction T).mono (by decide)) hr (ja_cons (je_op op_sub s_sub (je_var 6) (je_var 3)) (ja_cons (je_op (op_mulA (by rfl)) s_mul je_int (je_var 2)) ja_nil)))))))))⟩)
/-- compare_by(root, x) -/
def r_compare_by : MF := mDef backF 2 9 ((mSeq (mAsg (mVar 0) (mgTup 4 (mgCons (mgName 2) (mgCons (mgName 3) (mgCons (mgName 4) (mgCons (mgName 5) mgNil)))))) (mSeq (mAsg (mVar 1) (mgTup 2 (mgCons (mgName 6) (mgCons (mgName 7) mgNil)))) (mSeq (mIfS (mTest (mOp leD (mVar 6) (mC (.int 0)))) (mRet (mC (.int 1))) mNext) (mSeq (mAsg (mOp addD (mOp addD (mOp mulD (mOp mulD (mVar 3) (mVar 6)) (mVar 6)) (mOp mulD (mOp mulD (mVar 4) (mVar 6)) (mVar 7))) (mOp mulD (mOp mulD (mVar 5) (mVar 7)) (mVar 7))) (mgName 8)) (mRet (mOp subD (mCB intF (mCons (mOp ltD (mVar 8) (mC (.int 0))) mNil)) (mCB intF (mCons (mOp gtD (mVar 8) (mC (.int 0))) mNil)))))))))
theorem ok_compare_by (T : Top G.K mg G) : FnD P w G.K mg base G 1 "compare_by" 2 r_compare_by := by
  exact def_e rfl (back := backF) (N := n_compare_by) (ps := p_compare_by) backF_ok T.f_compare_by sc_compare_by (fun _ _ _ _ _ _ us hl => match us, hl with | [_, _], _ => rfl) (fun f cdv A outer s H E hr W => ⟨_, (jss_cons (js_asg (je_var 0) (jg_tup (n := 4) rfl (jgs_cons (jg_name (i := 2) sc_compare_by.nd) (jgs_cons (jg_name (i := 3) sc_compare_by.nd) (jgs_cons (jg_name (i := 4) sc_compare_by.nd) (jgs_cons (jg_name (i := 5) sc_compare_by.nd) jgs_nil)))))) (jss_cons (js_asg (je_var 1) (jg_tup (n := 2) rfl (jgs_cons (jg_name (i := 6) sc_compare_by.nd) (jgs_cons (jg_name (i := 7) sc_compare_by.nd) jgs_nil)))) (jss_cons (js_if (jt_cmp op_le s_cmp (je_var 6) je_int) (jss_one (js_ret je_int)) jss_nil) (jss_cons (js_set (i := 8) sc_compare_by.nd (je_op (op_addA (by rfl)) s_add (je_op (op_addA (by rfl)) s_add (je_op (op_mulA (by rfl)) s_mul (je_op (op_mulA (by rfl)) s_mul (je_var 3) (je_var 6)) (je_var 6)) (je_op (op_mulA (by rfl)) s_mul (je_op (op_mulA (by rfl)) s_mul (je_var 4) (je_var 6)) (je_var 7))) (je_op (op_mulA (by rfl)) s_mul (je_op (op_mulA (by rfl)) s_mul (je_var 5) (je_var 7)) (je_var 7)))) (jss_one (js_ret (je_op op_sub s_sub (je_ct call_int1 sc_int T.b_int (ja_cons (je_cmp op_lt s_cmp (je_var 8) je_int) ja_nil)) (je_ct call_int1 sc_int T.b_int (ja_cons (je_cmp op_gt s_cmp (je_var 8) je_int) ja_nil)))))))))⟩)
/-- order(root, other) -/
def t_order_17 : MS := (mRet (mUn negD (mVar 12)))
def t_order_13 : MS := (mSeq (mIfS (mTest (mOp eqD (mVar 10) (mC (.int 0)))) (mAsg (mCall 1 r_sign (mCons (mTup (mCons (mVar 11) (mCons (mC (.int 1)) mNil))) mNil)) (mgName 12)) (mAsg (mOp mulD (mCall 1 r_sign (mCons (mTup (mCons (mVar 10) (mCons (mC (.int 1)) mNil))) mNil)) (mCall 2 r_compare_by (mCons (mVar 1) (mCons (mCall 2 r_fraction (mCons (mUn negD (mVar 11)) (mCons (mVar 10) mNil))) mNil)))) (mgName 12))) t_order_17)
def t_order_12 : MS := (mSeq (mAsg (mOp subD (mOp mulD (mVar 6) (mVar 7)) (mOp mulD (mVar 4) (mVar 9))) (mgName 11)) t_order_13)
def t_order_11 : MS := (mSeq (mAsg (mOp subD (mOp mulD (mVar 5) (mVar 7)) (mOp mulD (mVar 4) (mVar 8))) (mgName 10)) t_order_12)
def t_order_10 : MS := (mSeq (mAsg (mVar 1) (mgTup 4 (mgCons (mgName 3) (mgCons (mgName 7) (mgCons (mgName 8) (mgCons (mgName 9) mgNil)))))) t_order_11)
def t_order_9 : MS := (mSeq (mAsg (mVar 0) (mgTup 4 (mgCons (mgName 3) (mgCons (mgName 4) (mgCons (mgName 5) (mgCons (mgName 6) mgNil)))))) t_order_10)
def t_order_7 : MS := (mSeq (mIfS (mTest (mOp notND (mVar 2) (mC .non))) (mRet (mUn negD (mCall 2 r_compare_by (mCons (mVar 1) (mCons (mVar 2) mNil))))) mNext) t_order_9)
def t_order_6 : MS := (mSeq (mAsg (mCall 1 r_fraction_by (mCons (mVar 0) mNil)) (mgName 2)) t_order_7)
def t_order_4 : MS := (mSeq (mIfS (mTest (mOp notND (mVar 2) (mC .non))) (mRet (mCall 2 r_compare_by (mCons (mVar 0) (mCons (mVar 2) mNil)))) mNext) t_order_6)
def t_order_3 : MS := (mSeq (mAsg (mCall 1 r_fraction_by (mCons (mVar 1) mNil)) (mgName 2)) t_order_4)
def t_order_2 : MS := (mSeq (mExpr (mCall 1 r_look_at_root (mCons (mVar 1) mNil))) t_order_3)
def r_order : MF := mDef backF 2 13 ((mSeq (mExpr (mCall 1 r_look_at_root (mCons (mVar 0) mNil))) t_order_2))
theorem ok_order (T : Top G.K mg G) : FnD P w G.K mg base G 4 "order" 2 r_order := by
  exact def_e rfl (back := backF) (N := n_order) (ps := p_order) backF_ok T.f_order sc_order (fun _ _ _ _ _ _ us hl => match us, hl with | [_, _], _ => rfl) (fun f cdv A outer s H E hr W => ⟨_, (jss_cons (js_expr (je_call ((ok_look_at_root T).mono (by decide)) hr (ja_cons (je_var 0) ja_nil))) (jss_cons (js_expr (je_call ((ok_look_at_root T).mono (by decide)) hr (ja_cons (je_var 1) ja_nil))) (jss_cons (js_set (i := 2) sc_order.nd (je_call ((ok_fraction_by T).mono (by decide)) hr (ja_cons (je_var 1) ja_nil))) (jss_cons (js_if (jt_cmp op_notN s_notN (je_var 2) je_non) (jss_one (js_ret (je_call ((ok_compare_by T).mono (by decide)) hr (ja_cons (je_var 0) (ja_cons (je_var 2) ja_nil))))) jss_nil) (jss_cons (js_set (i := 2) sc_order.nd (je_call ((ok_fraction_by T).mono (by decide)) hr (ja_cons (je_var 0) ja_nil))) (jss_cons (js_if (jt_cmp op_notN s_notN (je_var 2) je_non) (jss_one (js_ret (je_neg (je_call ((ok_compare_by T).mono (by decide)) hr (ja_cons (je_var 1) (ja_cons (je_var 2) ja_nil)))))) jss_nil) (jss_cons (js_asg (je_var 0) (jg_tup (n := 4) rfl (jgs_cons (jg_name (i := 3) sc_order.nd) (jgs_cons (jg_name (i := 4) sc_order.nd) (jgs_cons (jg_name (i := 5) sc_order.nd) (jgs_cons (jg_name (i := 6) sc_order.nd) jgs_nil)))))) (jss_cons (js_asg (je_var 1) (jg_tup (n := 4) rfl (jgs_cons (jg_name (i := 3) sc_order.nd) (jgs_cons (jg_name (i := 7) sc_order.nd) (jgs_cons (jg_name (i := 8) sc_order.nd) (jgs_cons (jg_name (i := 9) sc_order.nd) jgs_nil)))))) (jss_cons (js_set (i := 10) sc_order.nd (je_op op_sub s_sub (je_op (op_mulA (by rfl)) s_mul (je_var 5) (je_var 7)) (je_op (op_mulA (by rfl)) s_mul (je_var 4) (je_var 8)))) (jss_cons (js_set (i := 11) sc_order.nd (je_op op_sub s_sub (je_op (op_mulA (by rfl)) s_mul (je_var 6) (je_var 7)) (je_op (op_mulA (by rfl)) s_mul (je_var 4) (je_var 9)))) (jss_cons (js_if (jt_cmp (op_eqK (by rfl) hr.units) s_eq (je_var 10) je_int) (jss_one (js_set (i := 12) sc_order.nd (je_call ((ok_sign T).mono (by decide)) hr (ja_cons (je_tup (ja_cons (je_var 11) (ja_cons je_int ja_nil))) ja_nil)))) (jss_one (js_set (i := 12) sc_order.nd (je_op (op_mulA (by rfl)) s_mul (je_call ((ok_sign T).mono (by decide)) hr (ja_cons (je_tup (ja_cons (je_var 10) (ja_cons je_int ja_nil))) ja_nil)) (je_call ((ok_compare_by T).mono (by decide)) hr (ja_cons (je_var 1) (ja_cons (je_call ((ok_fraction T).mono (by decide)) hr (ja_cons (je_neg (je_var 11)) (ja_cons (je_var 10) ja_nil))) ja_nil))))))) (jss_one (js_ret (je_neg (je_var 12)))))))))))))))⟩)
/-- is_number(value) -/
def r_is_number : MF := mDef backF 1 3 ((mSeq (mIfS (mOr (mNot (mTest (mIsi "tuple" (mVar 0)))) (mTest (mOp neD (mCB lenF (mCons (mVar 0) mNil)) (mC (.int 2))))) (mRet (mC (.bl false))) mNext) (mSeq (mAsg (mVar 0) (mgTup 2 (mgCons (mgName 1) (mgCons (mgName 2) mgNil)))) (mSeq (mIfS (mOr (mNot (mTest (mIsi "int" (mVar 1)))) (mOr (mTest (mIsi "bool" (mVar 1))) (mOr (mNot (mTest (mIsi "int" (mVar 2)))) (mOr (mTest (mIsi "bool" (mVar 2))) (mTest (mOp ltD (mVar 2) (mC (.int 1)))))))) (mRet (mC (.bl false))) mNext) (mSeq (mWhile (mTest (mOp neD (mVar 1) (mC (.int 0)))) (mPar 1 2 (mCons (mOp modD (mVar 2) (mCB absF (mCons (mVar 1) mNil))) (mCons (mCB absF (mCons (mVar 1) mNil)) mNil)))) (mRet (mOp eqD (mVar 2) (mC (.int 1)))))))))
theorem ok_is_number (T : Top G.K mg G) : FnD P w G.K mg base G 1 "is_number" 1 r_is_number := by
  exact def_e rfl (back := backF) (N := n_is_number) (ps := p_is_number) backF_ok T.f_is_number sc_is_number (fun _ _ _ _ _ _ us hl => match us, hl with | [_], _ => rfl) (fun f cdv A outer s H E hr W => ⟨_, (jss_cons (js_if ((jw_or (jt_not (jt_val (je_isi (T := "tuple") (by decide) T.b_isinstance T.b_tuple (je_var 0)))) (jw_or1 (jt_cmp (op_neK (by rfl) hr.units) s_ne (je_cb (call_lenA (by rfl)) sc_len T.b_len (ja_cons (je_var 0) ja_nil)) je_int)))).jt (jss_one (js_ret je_bl)) jss_nil) (jss_cons (js_asg (je_var 0) (jg_tup (n := 2) rfl (jgs_cons (jg_name (i := 1) sc_is_number.nd) (jgs_cons (jg_name (i := 2) sc_is_number.nd) jgs_nil)))) (jss_cons (js_if ((jw_or (jt_not (jt_val (je_isi (T := "int") (by decide) T.b_isinstance T.b_int (je_var 1)))) (jw_or (jt_val (je_isi (T := "bool") (by decide) T.b_isinstance T.b_bool (je_var 1))) (jw_or (jt_not (jt_val (je_isi (T := "int") (by decide) T.b_isinstance T.b_int (je_var 2)))) (jw_or (jt_val (je_isi (T := "bool") (by decide) T.b_isinstance T.b_bool (je_var 2))) (jw_or1 (jt_cmp op_lt s_cmp (je_var 2) je_int))))))).jt (jss_one (js_ret je_bl)) jss_nil) (jss_cons (js_while (jt_cmp (op_neK (by rfl) hr.units) s_ne (je_var 1) je_int) (jss_one (js_par (i := 1) (j := 2) rfl sc_is_number.nd (ja_cons (je_op op_modN s_mod (je_var 2) (je_cb call_abs sc_abs T.b_abs (ja_cons (je_var 1) ja_nil))) (ja_cons (je_cb call_abs sc_abs T.b_abs (ja_cons (je_var 1) ja_nil)) ja_nil))))) (jss_one (js_ret (je_cmp (op_eqK (by rfl) hr.units) s_eq (je_var 2) je_int)))))))⟩)
/-- over(x, y) -/
def r_over : MF := mDef backF 2 2 ((mRet (mCall 2 r_fraction (mCons (mOp mulD (mOp ixD (mVar 0) (mC (.int 0))) (mOp ixD (mVar 1) (mC (.int 1)))) (mCons (mOp mulD (mOp ixD (mVar 0) (mC (.int 1))) (mOp ixD (mVar 1) (mC (.int 0)))) mNil)))))
theorem ok_over (T : Top G.K mg G) : FnD P w G.K mg base G 3 "over" 2 r_over := by
  exact def_e rfl (back := backF) (N := n_over) (ps := p_over) backF_ok T.f_over sc_over (fun _ _ _ _ _ _ us hl => match us, hl with | [_, _], _ => rfl) (fun f cdv A outer s H E hr W => ⟨_, (jss_one (js_ret (je_call ((ok_fraction T).mono (by decide)) hr (ja_cons (je_op (op_mulA (by rfl)) s_mul (je_ix (je_var 0) je_int) (je_ix (je_var 1) je_int)) (ja_cons (je_op (op_mulA (by rfl)) s_mul (je_ix (je_var 0) je_int) (je_ix (je_var 1) je_int)) ja_nil)))))⟩)
/-- ahead(part, x) -/
def r_ahead : MF := mDef backF 2 4 ((mSeq (mAsg (mVar 0) (mgTup 2 (mgCons (mgName 2) (mgCons (mgName 3) mgNil)))) (mSeq (mIfS (mTest (mOp eqD (mVar 2) (mC (.str "row")))) (mSeq (mIfS (mTest (mOp isND (mVar 1) (mC .non))) (mRet (mC .non)) mNext) (mRet (mCall 2 r_plus (mCons (mVar 1) (mCons (mVar 3) mNil))))) mNext) (mSeq (mIfS (mTest (mOp isND (mVar 1) (mC .non))) (mRet (mVar 3)) mNext) (mRet (mCall 2 r_over (mCons (mCall 2 r_times (mCons (mVar 1) (mCons (mVar 3) mNil))) (mCons (mCall 2 r_plus (mCons (mVar 1) (mCons (mVar 3) mNil))) mNil))))))))
theorem ok_ahead (T : Top G.K mg G) : FnD P w G.K mg base G 4 "ahead" 2 r_ahead := by
  exact def_e rfl (back := backF) (N := n_ahead) (ps := p_ahead) backF_ok T.f_ahead sc_ahead (fun _ _ _ _ _ _ us hl => match us, hl with | [_, _], _ => rfl) (fun f cdv A outer s H E hr W => ⟨_, (jss_cons (js_asg (je_var 0) (jg_tup (n := 2) rfl (jgs_cons (jg_name (i := 2) sc_ahead.nd) (jgs_cons (jg_name (i := 3) sc_ahead.nd) jgs_nil)))) (jss_cons (js_if (jt_cmp (op_eqK (by rfl) hr.units) s_eq (je_var 2) je_str) (jss_cons (js_if (jt_cmp op_isN s_isN (je_var 1) je_non) (jss_one (js_ret je_non)) jss_nil) (jss_one (js_ret (je_call ((ok_plus T).mono (by decide)) hr (ja_cons (je_var 1) (ja_cons (je_var 3) ja_nil)))))) jss_nil) (jss_cons (js_if (jt_cmp op_isN s_isN (je_var 1) je_non) (jss_one (js_ret (je_var 3))) jss_nil) (jss_one (js_ret (je_call ((ok_over T).mono (by decide)) hr (ja_cons (je_call ((ok_times T).mono (by decide)) hr (ja_cons (je_var 1) (ja_cons (je_var 3) ja_nil))) (ja_cons (je_call ((ok_plus T).mono (by decide)) hr (ja_cons (je_var 1) (ja_cons (je_var 3) ja_nil))) ja_nil))))))))⟩)
/-- ahead_of_all(ladder, x) -/
def b_ahead_of_all_1 : MS := (mAsg (mCall 2 r_ahead (mCons (mVar 2) (mCons (mVar 1) mNil))) (mgName 1))
def l_ahead_of_all_1 : MS := (mFor (mIter (mUn revD (mVar 0))) (mgName 2) b_ahead_of_all_1)
def t_ahead_of_all_3 : MS := (mRet (mVar 1))
def r_ahead_of_all : MF := mDef backF 2 3 ((mSeq l_ahead_of_all_1 t_ahead_of_all_3))
theorem ok_ahead_of_all (T : Top G.K mg G) : FnD P w G.K mg base G 5 "ahead_of_all" 2 r_ahead_of_all := by
  exact def_e rfl (back := backF) (N := n_ahead_of_all) (ps := p_ahead_of_all) backF_ok T.f_ahead_of_all sc_ahead_of_all (fun _ _ _ _ _ _ us hl => match us, hl with | [_, _], _ => rfl) (fun f cdv A outer s H E hr W => ⟨_, (jss_cons (js_for rfl (ji_any (je_rev (je_var 0))) (jg_name (i := 2) sc_ahead_of_all.nd) (jss_one (js_set (i := 1) sc_ahead_of_all.nd (je_call ((ok_ahead T).mono (by decide)) hr (ja_cons (je_var 2) (ja_cons (je_var 1) ja_nil)))))) (jss_one (js_ret (je_var 1))))⟩)
/-- less(x, y) -/
def r_less : MF := mDef backF 2 2 ((mRet (mOp ltD (mOp mulD (mOp ixD (mVar 0) (mC (.int 0))) (mOp ixD (mVar 1) (mC (.int 1)))) (mOp mulD (mOp ixD (mVar 1) (mC (.int 0))) (mOp ixD (mVar 0) (mC (.int 1)))))))
theorem ok_less (T : Top G.K mg G) : FnD P w G.K mg base G 1 "less" 2 r_less := by
  exact def_e rfl (back := backF) (N := n_less) (ps := p_less) backF_ok T.f_less sc_less (fun _ _ _ _ _ _ us hl => match us, hl with | [_, _], _ => rfl) (fun f cdv A outer s H E hr W => ⟨_, (jss_one (js_ret (je_cmp op_lt s_cmp (je_op (op_mulA (by rfl)) s_mul (je_ix (je_var 0) je_int) (je_ix (je_var 1) je_int)) (je_op (op_mulA (by rfl)) s_mul (je_ix (je_var 1) je_int) (je_ix (je_var 0) je_int)))))⟩)
/-- parts_enough(ladder, x) -/
def t_parts_enough_10 : MS := (mAsg (mCall 2 r_ahead_of_all (mCons (mVar 0) (mCons (mVar 3) mNil))) (mgName 3))
def b_parts_enough_7 : MS := (mSeq (mIfS (mAnd (mTest (mOp notND (mVar 3) (mC .non))) (mTest (mCall 2 r_less (mCons (mVar 3) (mCons (mVar 1) mNil))))) (mRet (mVar 4)) mNext) t_parts_enough_10)
def l_parts_enough_7 : MS := (mFor (mRng1 (mCons (mOp addD (mC (.int 40)) (mC (.int 1))) mNil)) (mgName 4) b_parts_enough_7)
def t_parts_enough_11 : MS := (mRaise "TooFar")
def t_parts_enough_7 : MS := (mSeq l_parts_enough_7 t_parts_enough_11)
def t_parts_enough_6 : MS := (mSeq (mAsg (mC .non) (mgName 3)) t_parts_enough_7)
def t_parts_enough_4 : MS := (mSeq (mIfS (mTest (mOp geD (mCall 2 r_compare_by (mCons (mVar 2) (mCons (mVar 1) mNil))) (mC (.int 0)))) (mRet (mC .non)) mNext) t_parts_enough_6)
def t_parts_enough_2 : MS := (mSeq (mIfS (mNot (mTest (mCall 1 r_is_number (mCons (mVar 1) mNil)))) (mRaise "BadValue") mNext) t_parts_enough_4)
def r_parts_enough : MF := mDef backF 2 5 ((mSeq (mAsg (mCall 1 r_endless (mCons (mVar 0) mNil)) (mgName 2)) t_parts_enough_2))
theorem ok_parts_enough (T : Top G.K mg G) : FnD P w G.K mg base G 7 "parts_enough" 2 r_parts_enough := by
  exact def_e rfl (back := backF) (N := n_parts_enough) (ps := p_parts_enough) backF_ok T.f_parts_enough sc_parts_enough (fun _ _ _ _ _ _ us hl => match us, hl with | [_, _], _ => rfl) (fun f cdv A outer s H E hr W => ⟨_, (jss_cons (js_set (i := 2) sc_parts_enough.nd (je_call ((ok_endless T).mono (by decide)) hr (ja_cons (je_var 0) ja_nil))) (jss_cons (js_if (jt_not (jt_val (je_call ((ok_is_number T).mono (by decide)) hr (ja_cons (je_var 1) ja_nil)))) (jss_one (js_raise T.c_BadValue rfl)) jss_nil) (jss_cons (js_if (jt_cmp op_ge s_cmp (je_call ((ok_compare_by T).mono (by decide)) hr (ja_cons (je_var 2) (ja_cons (je_var 1) ja_nil))) je_int) (jss_one (js_ret je_non)) jss_nil) (jss_cons (js_set (i := 3) sc_parts_enough.nd je_non) (jss_cons (js_for rfl (ji_rng1 T.b_range (ja_cons (je_op (op_addA (by rfl)) s_add (je_glb T.g_MOST_TIMES) je_int) ja_nil)) (jg_name (i := 4) sc_parts_enough.nd) (jss_cons (js_if ((jw_and (jt_cmp op_notN s_notN (je_var 3) je_non) (jw_and1 (jt_val (je_call ((ok_less T).mono (by decide)) hr (ja_cons (je_var 3) (ja_cons (je_var 1) ja_nil))))))).jt (jss_one (js_ret (je_var 4))) jss_nil) (jss_one (js_set (i := 3) sc_parts_enough.nd (je_call ((ok_ahead_of_all T).mono (by decide)) hr (ja_cons (je_var 0) (ja_cons (je_var 3) ja_nil))))))) (jss_one (js_raise T.c_TooFar rfl)))))))⟩)
/-- _law_told(call, values) -/
def r__law_told : MF := mDef backF 2 2 ((mTry (mSeq (mIfS (mTest (mOp eqD (mCB lenF (mCons (mVar 1) mNil)) (mC (.int 1)))) (mRet (mCallV 0 [("common", 2, r_common), ("parts_enough", 2, r_parts_enough), ("endless", 1, r_endless)] (mCons (mOp ixD (mVar 1) (mC (.int 0))) mNil))) mNext) (mRet (mCallV 0 [("common", 2, r_common), ("parts_enough", 2, r_parts_enough), ("endless", 1, r_endless)] (mCons (mOp ixD (mVar 1) (mC (.int 0))) (mCons (mOp ixD (mVar 1) (mC (.int 1))) mNil))))) [("BadValue", (mRet (mC (.str "value")))), ("NoSuch", (mRet (mC (.str "none")))), ("TooFar", (mRet (mC (.str "far"))))]))
theorem ok__law_told (T : Top G.K mg G) : FnD P w G.K mg base G 8 "_law_told" 2 r__law_told := by
  exact def_e rfl (back := backF) (N := n__law_told) (ps := p__law_told) backF_ok T.f__law_told sc__law_told (fun _ _ _ _ _ _ us hl => match us, hl with | [_, _], _ => rfl) (fun f cdv A outer s H E hr W => ⟨_, (jss_one (js_try T.em rfl rfl (fun W _ _ => (jss_cons (js_if (jt_cmp (op_eqK (by rfl) hr.units) s_eq (je_cb (call_lenA (by rfl)) sc_len T.b_len (ja_cons (je_var 1) ja_nil)) je_int) (jss_one (js_ret (je_callV (i := 0) (FsOk.cons ((ok_common T).mono (by decide)) (FsOk.cons ((ok_parts_enough T).mono (by decide)) (FsOk.cons ((ok_endless T).mono (by decide)) FsOk.nil))) hr (ja_cons (je_ix (je_var 1) je_int) ja_nil)))) jss_nil) (jss_one (js_ret (je_callV (i := 0) (FsOk.cons ((ok_common T).mono (by decide)) (FsOk.cons ((ok_parts_enough T).mono (by decide)) (FsOk.cons ((ok_endless T).mono (by decide)) FsOk.nil))) hr (ja_cons (je_ix (je_var 1) je_int) (ja_cons (je_ix (je_var 1) je_int) ja_nil))))))) (HsOk.cons T.c_BadValue rfl (by decide) (fun _ _ _ => (jss_one (js_ret je_str))) (HsOk.cons T.c_NoSuch rfl (by decide) (fun _ _ _ => (jss_one (js_ret je_str))) (HsOk.cons T.c_TooFar rfl (by decide) (fun _ _ _ => (jss_one (js_ret je_str))) HsOk.nil)))))⟩)
/-- compare(root, x) -/
def r_compare : MF := mDef backF 2 2 ((mSeq (mExpr (mCall 1 r_look_at_root (mCons (mVar 0) mNil))) (mSeq (mIfS (mNot (mTest (mCall 1 r_is_number (mCons (mVar 1) mNil)))) (mRaise "BadValue") mNext) (mRet (mCall 2 r_compare_by (mCons (mVar 0) (mCons (mVar 1) mNil)))))))
theorem ok_compare (T : Top G.K mg G) : FnD P w G.K mg base G 4 "compare" 2 r_compare := by
  exact def_e rfl (back := backF) (N := n_compare) (ps := p_compare) backF_ok T.f_compare sc_compare (fun _ _ _ _ _ _ us hl => match us, hl with | [_, _], _ => rfl) (fun f cdv A outer s H E hr W => ⟨_, (jss_cons (js_expr (je_call ((ok_look_at_root T).mono (by decide)) hr (ja_cons (je_var 0) ja_nil))) (jss_cons (js_if (jt_not (jt_val (je_call ((ok_is_number T).mono (by decide)) hr (ja_cons (je_var 1) ja_nil)))) (jss_one (js_raise T.c_BadValue rfl)) jss_nil) (jss_one (js_ret (je_call ((ok_compare_by T).mono (by decide)) hr (ja_cons (je_var 0) (ja_cons (je_var 1) ja_nil)))))))⟩)
/-- turned(ladder) -/
def t_turned_7 : MS := (mExpr (mMeth "list" appendM (mVar 1) (mCons (mTup (mCons (mVar 4) (mCons (mCall 2 r_over (mCons (mC (.tup [.int 1, .int 1])) (mCons (mVar 3) mNil))) mNil))) mNil)))
def t_turned_5 : MS := (mSeq (mIfS (mTest (mOp eqD (mVar 2) (mC (.str "row")))) (mAsg (mC (.str "beside")) (mgName 4)) mNext) t_turned_7)
def b_turned_3 : MS := (mSeq (mAsg (mC (.str "row")) (mgName 4)) t_turned_5)
def l_turned_3 : MS := (mFor (mIter (mVar 0)) (mgTup 2 (mgCons (mgName 2) (mgCons (mgName 3) mgNil))) b_turned_3)
def t_turned_8 : MS := (mRet (mCB tupleF (mCons (mVar 1) mNil)))
def t_turned_3 : MS := (mSeq l_turned_3 t_turned_8)
def t_turned_2 : MS := (mSeq (mAsg (mNew mNil) (mgName 1)) t_turned_3)
def r_turned : MF := mDef backF 1 5 ((mSeq (mExpr (mCall 1 r_look_at_ladder (mCons (mVar 0) mNil))) t_turned_2))
theorem ok_turned (T : Top G.K mg G) : FnD P w G.K mg base G 6 "turned" 1 r_turned := by
  exact def_e rfl (back := backF) (N := n_turned) (ps := p_turned) backF_ok T.f_turned sc_turned (fun _ _ _ _ _ _ us hl => match us, hl with | [_], _ => rfl) (fun f cdv A outer s H E hr W => ⟨_, (jss_cons (js_expr (je_call ((ok_look_at_ladder T).mono (by decide)) hr (ja_cons (je_var 0) ja_nil))) (jss_cons (js_set (i := 1) sc_turned.nd (je_new ja_nil)) (jss_cons (js_for rfl (ji_any (je_var 0)) (jg_tup (n := 2) rfl (jgs_cons (jg_name (i := 2) sc_turned.nd) (jgs_cons (jg_name (i := 3) sc_turned.nd) jgs_nil))) (jss_cons (js_set (i := 4) sc_turned.nd je_str) (jss_cons (js_if (jt_cmp (op_eqK (by rfl) hr.units) s_eq (je_var 2) je_str) (jss_one (js_set (i := 4) sc_turned.nd je_str)) jss_nil) (jss_one (js_expr (je_meth PySem.F.plainAttrs_list PySem.F.slot_list_append PySem.F.type_list_append mt_append sm_append (je_var 1) (ja_cons (je_tup (ja_cons (je_var 4) (ja_cons (je_call ((ok_over T).mono (by decide)) hr (ja_cons (je_glb T.g_ONE) (ja_cons (je_var 3) ja_nil))) ja_nil))) ja_nil))))))) (jss_one (js_ret (je_ct (call_tupleK (by rfl)) sc_tuple T.b_tuple (ja_cons (je_var 1) ja_nil)))))))⟩)
/-- _law_case(bag) -/
def t__law_case_10 : MS := (mIfS (mTest (mOp neD (mCall 3 r__law_after (mCons (mVar 1) (mCons (mC (.int 1)) (mCons (mVar 9) mNil)))) (mVar 9))) (mRet (mC (.bl false))) mNext)
def t__law_case_14 : MS := (mIfS (mTest (mOp neD (mCall 3 r__law_through (mCons (mVar 1) (mCons (mVar 9) (mCons (mVar 7) mNil)))) (mVar 9))) (mRet (mC (.bl false))) mNext)
def t__law_case_19 : MS := (mIfS (mOr (mAnd (mTest (mOp notND (mVar 11) (mC .non))) (mTest (mOp neD (mCall 2 r_compare (mCons (mVar 2) (mCons (mVar 11) mNil))) (mUn negD (mC (.int 1)))))) (mTest (mOp neD (mCall 2 r_compare (mCons (mVar 2) (mCons (mVar 12) mNil))) (mC (.int 1))))) (mRet (mC (.bl false))) mNext)
def t__law_case_18 : MS := (mSeq (mAsg (mCall 3 r__law_after (mCons (mVar 1) (mCons (mVar 10) (mCons (mTup (mCons (mC (.int 0)) (mCons (mC (.int 1)) mNil))) mNil)))) (mgName 12)) t__law_case_19)
def b__law_case_16 : MS := (mSeq (mAsg (mCall 3 r__law_after (mCons (mVar 1) (mCons (mVar 10) (mCons (mC .non) mNil)))) (mgName 11)) t__law_case_18)
def l__law_case_16 : MS := (mFor (mRng2 (mCons (mC (.int 1)) (mCons (mC (.int 6)) mNil))) (mgName 10) b__law_case_16)
def t__law_case_27 : MS := (mIfS (mTest (mOp neD (mCall 2 r__law_told (mCons (mC (.fn "parts_enough")) (mCons (mTup (mCons (mVar 1) (mCons (mVar 9) mNil))) mNil))) (mOp ixD (mVar 14) (mC (.int 0))))) (mRet (mC (.bl false))) mNext)
def t__law_case_35 : MS := (mRet (mAndV (mOp eqD (mLc [19] (mIter (mLst (mCons (mC .non) (mCons (mTup mNil) (mCons (mTup (mCons (mTup (mCons (mC (.str "row")) (mCons (mTup (mCons (mC (.int 0)) (mCons (mC (.int 1)) mNil))) mNil))) mNil)) mNil))))) (mgName 19) mYes (mCall 2 r__law_told (mCons (mC (.fn "endless")) (mCons (mTup (mCons (mVar 19) mNil)) mNil)))) (mOp mulD (mLst (mCons (mC (.str "value")) mNil)) (mC (.int 3)))) (mOp eqD (mLc [19] (mIter (mLst (mCons (mC .non) (mCons (mTup (mCons (mC (.int 2)) (mCons (mC (.int 4)) mNil))) mNil)))) (mgName 19) mYes (mCall 2 r__law_told (mCons (mC (.fn "parts_enough")) (mCons (mTup (mCons (mVar 1) (mCons (mVar 19) mNil))) mNil)))) (mOp mulD (mLst (mCons (mC (.str "value")) mNil)) (mC (.int 2))))))
def t__law_case_33 : MS := (mSeq (mIfS (mOr (mTest (mOp neD (mLc [19] (mIter (mLst (mCons (mVar 15) (mCons (mVar 16) mNil)))) (mgName 19) mYes (mCall 2 r__law_told (mCons (mC (.fn "endless")) (mCons (mTup (mCons (mVar 19) mNil)) mNil)))) (mOp mulD (mLst (mCons (mC (.str "none")) mNil)) (mC (.int 2))))) (mTest (mOp neD (mCall 2 r__law_told (mCons (mC (.fn "parts_enough")) (mCons (mTup (mCons (mVar 15) (mCons (mTup (mCons (mC (.int 1)) (mCons (mC (.int 1)) mNil))) mNil))) mNil))) (mC (.str "none"))))) (mRet (mC (.bl false))) mNext) t__law_case_35)
def t__law_case_32 : MS := (mSeq (mAsg (mCB tupleF (mCons (mLc [18] (mIter (mVar 1)) (mgName 18) (mTest (mOp eqD (mOp ixD (mVar 18) (mC (.int 0))) (mC (.str "beside")))) (mVar 18)) mNil)) (mgName 16)) t__law_case_33)
def t__law_case_31 : MS := (mSeq (mAsg (mCB tupleF (mCons (mLc [18] (mIter (mVar 1)) (mgName 18) (mTest (mOp eqD (mOp ixD (mVar 18) (mC (.int 0))) (mC (.str "row")))) (mVar 18)) mNil)) (mgName 15)) t__law_case_32)
def t__law_case_29 : MS := (mSeq (mIfS (mOr (mTest (mOp notND (mCall 2 r__law_told (mCons (mC (.fn "parts_enough")) (mCons (mTup (mCons (mVar 1) (mCons (mCall 3 r__law_after (mCons (mVar 1) (mCons (mVar 13) (mCons (mTup (mCons (mC (.int 0)) (mCons (mC (.int 1)) mNil))) mNil)))) mNil))) mNil))) (mC .non))) (mTest (mOp notND (mCall 2 r__law_told (mCons (mC (.fn "parts_enough")) (mCons (mTup (mCons (mVar 1) (mCons (mTup (mCons (mC (.int 0)) (mCons (mC (.int 1)) mNil))) mNil))) mNil))) (mC .non)))) (mRet (mC (.bl false))) mNext) t__law_case_31)
def t__law_case_25 : MS := (mSeq (mIfS (mTest (mOp notND (mVar 9) (mC .non))) (mSeq (mAsg (mLc [17] (mRng2 (mCons (mC (.int 1)) (mCons (mOp addD (mVar 13) (mC (.int 2))) mNil))) (mgName 17) (mAnd (mTest (mOp notND (mCall 3 r__law_after (mCons (mVar 1) (mCons (mVar 17) (mCons (mC .non) mNil)))) (mC .non))) (mTest (mOp ltD (mOp ixD (mCall 2 r__law_sub (mCons (mCall 3 r__law_after (mCons (mVar 1) (mCons (mVar 17) (mCons (mC .non) mNil)))) (mCons (mVar 9) mNil))) (mC (.int 0))) (mC (.int 0))))) (mVar 17)) (mgName 14)) t__law_case_27) mNext) t__law_case_29)
def t__law_case_24 : MS := (mSeq (mAsg (mCall 3 r__law_after (mCons (mVar 1) (mCons (mVar 13) (mCons (mC .non) mNil)))) (mgName 9)) t__law_case_25)
def t__law_case_23 : MS := (mSeq (mAsg (mOp addD (mC (.int 1)) (mCall 2 r__law_draw (mCons (mVar 0) (mCons (mC (.int 6)) mNil)))) (mgName 13)) t__law_case_24)
def t__law_case_21 : MS := (mSeq (mIfS (mOr (mTest (mOp neD (mCall 2 r_order (mCons (mCall 1 r_endless (mCons (mOp addD (mVar 1) (mVar 1)) mNil)) (mCons (mVar 2) mNil))) (mC (.int 0)))) (mTest (mOp neD (mCall 2 r_order (mCons (mCall 1 r_endless (mCons (mCall 1 r_turned (mCons (mVar 1) mNil)) mNil)) (mCons (mTup (mCons (mC (.str "root")) (mCons (mOp subD (mC (.int 0)) (mVar 6)) (mCons (mOp subD (mC (.int 0)) (mVar 5)) (mCons (mOp subD (mC (.int 0)) (mVar 4)) mNil))))) mNil))) (mC (.int 0))))) (mRet (mC (.bl false))) mNext) t__law_case_23)
def t__law_case_16 : MS := (mSeq l__law_case_16 t__law_case_21)
def t__law_case_8 : MS := (mSeq (mIfS (mTest (mOp notND (mVar 8) (mC .non))) (mSeq (mAsg (mCall 2 r__law_fr (mCons (mOp subD (mVar 8) (mVar 5)) (mCons (mOp mulD (mC (.int 2)) (mVar 4)) mNil))) (mgName 9)) t__law_case_10) (mSeq (mAsg (mTup (mCons (mCall 2 r__law_fr (mCons (mOp subD (mC (.int 0)) (mVar 5)) (mCons (mOp mulD (mC (.int 2)) (mVar 4)) mNil))) (mCons (mCall 2 r__law_fr (mCons (mC (.int 1)) (mCons (mOp mulD (mC (.int 2)) (mVar 4)) mNil))) mNil))) (mgName 9)) t__law_case_14)) t__law_case_16)
def t__law_case_7 : MS := (mSeq (mAsg (mCall 1 r__law_whole (mCons (mVar 7) mNil)) (mgName 8)) t__law_case_8)
def t__law_case_6 : MS := (mSeq (mAsg (mOp subD (mOp mulD (mVar 5) (mVar 5)) (mOp mulD (mOp mulD (mC (.int 4)) (mVar 4)) (mVar 6))) (mgName 7)) t__law_case_7)
def t__law_case_4 : MS := (mSeq (mIfS (mOr (mTest (mOp neD (mVar 3) (mC (.str "root")))) (mOr (mTest (mOp ltD (mVar 4) (mC (.int 1)))) (mTest (mOp gtD (mVar 6) (mUn negD (mC (.int 1))))))) (mRet (mC (.bl false))) mNext) t__law_case_6)
def t__law_case_3 : MS := (mSeq (mAsg (mVar 2) (mgTup 4 (mgCons (mgName 3) (mgCons (mgName 4) (mgCons (mgName 5) (mgCons (mgName 6) mgNil)))))) t__law_case_4)
def t__law_case_2 : MS := (mSeq (mAsg (mCall 1 r_endless (mCons (mVar 1) mNil)) (mgName 2)) t__law_case_3)
def r__law_case : MF := mDef backF 1 20 ((mSeq (mAsg (mCall 1 r__law_ladder (mCons (mVar 0) mNil)) (mgName 1)) t__law_case_2))
theorem ok__law_case (T : Top G.K mg G) : FnD P w G.K mg base G 9 "_law_case" 1 r__law_case := by
  exact def_e rfl (back := backF) (N := n__law_case) (ps := p__law_case) backF_ok T.f__law_case sc__law_case (fun _ _ _ _ _ _ us hl => match us, hl with | [_], _ => rfl) (fun f cdv A outer s H E hr W => ⟨_, (jss_cons (js_set (i := 1) sc__law_case.nd (je_call ((ok__law_ladder T).mono (by decide)) hr (ja_cons (je_var 0) ja_nil))) (jss_cons (js_set (i := 2) sc__law_case.nd (je_call ((ok_endless T).mono (by decide)) hr (ja_cons (je_var 1) ja_nil))) (jss_cons (js_asg (je_var 2) (jg_tup (n := 4) rfl (jgs_cons (jg_name (i := 3) sc__law_case.nd) (jgs_cons (jg_name (i := 4) sc__law_case.nd) (jgs_cons (jg_name (i := 5) sc__law_case.nd) (jgs_cons (jg_name (i := 6) sc__law_case.nd) jgs_nil)))))) (jss_cons (js_if ((jw_or (jt_cmp (op_neK (by rfl) hr.units) s_ne (je_var 3) je_str) (jw_or (jt_cmp op_lt s_cmp (je_var 4) je_int) (jw_or1 (jt_cmp op_gt s_cmp (je_var 6) (je_neg je_int)))))).jt (jss_one (js_ret je_bl)) jss_nil) (jss_cons (js_set (i := 7) sc__law_case.nd (je_op op_sub s_sub (je_op (op_mulA (by rfl)) s_mul (je_var 5) (je_var 5)) (je_op (op_mulA (by rfl)) s_mul (je_op (op_mulA (by rfl)) s_mul je_int (je_var 4)) (je_var 6)))) (jss_cons (js_set (i := 8) sc__law_case.nd (je_call ((ok__law_whole T).mono (by decide)) hr (ja_cons (je_var 7) ja_nil))) (jss_cons (js_if (jt_cmp op_notN s_notN (je_var 8) je_non) (jss_cons (js_set (i := 9) sc__law_case.nd (je_call ((ok__law_fr T).mono (by decide)) hr (ja_cons (je_op op_sub s_sub (je_var 8) (je_var 5)) (ja_cons (je_op (op_mulA (by rfl)) s_mul je_int (je_var 4)) ja_nil)))) (jss_one (js_if (jt_cmp (op_neK (by rfl) hr.units) s_ne (je_call ((ok__law_after T).mono (by decide)) hr (ja_cons (je_var 1) (ja_cons je_int (ja_cons (je_var 9) ja_nil)))) (je_var 9)) (jss_one (js_ret je_bl)) jss_nil))) (jss_cons (js_set (i := 9) sc__law_case.nd (je_tup (ja_cons (je_call ((ok__law_fr T).mono (by decide)) hr (ja_cons (je_op op_sub s_sub je_int (je_var 5)) (ja_cons (je_op (op_mulA (by rfl)) s_mul je_int (je_var 4)) ja_nil))) (ja_cons (je_call ((ok__law_fr T).mono (by decide)) hr (ja_cons je_int (ja_cons (je_op (op_mulA (by rfl)) s_mul je_int (je_var 4)) ja_nil))) ja_nil)))) (jss_one (js_if (jt_cmp (op_neK (by rfl) hr.units) s_ne (je_call ((ok__law_through T).mono (by decide)) hr (ja_cons (je_var 1) (ja_cons (je_var 9) (ja_cons (je_var 7) ja_nil)))) (je_var 9)) (jss_one (js_ret je_bl)) jss_nil)))) (jss_cons (js_for rfl (ji_rng2 T.b_range (ja_cons je_int (ja_cons je_int ja_nil))) (jg_name (i := 10) sc__law_case.nd) (jss_cons (js_set (i := 11) sc__law_case.nd (je_call ((ok__law_after T).mono (by decide)) hr (ja_cons (je_var 1) (ja_cons (je_var 10) (ja_cons je_non ja_nil))))) (jss_cons (js_set (i := 12) sc__law_case.nd (je_call ((ok__law_after T).mono (by decide)) hr (ja_cons (je_var 1) (ja_cons (je_var 10) (ja_cons (je_tup (ja_cons je_int (ja_cons je_int ja_nil))) ja_nil))))) (jss_one (js_if ((jw_or ((jw_and (jt_cmp op_notN s_notN (je_var 11) je_non) (jw_and1 (jt_cmp (op_neK (by rfl) hr.units) s_ne (je_call ((ok_compare T).mono (by decide)) hr (ja_cons (je_var 2) (ja_cons (je_var 11) ja_nil))) (je_neg je_int))))).jt (jw_or1 (jt_cmp (op_neK (by rfl) hr.units) s_ne (je_call ((ok_compare T).mono (by decide)) hr (ja_cons (je_var 2) (ja_cons (je_var 12) ja_nil))) je_int)))).jt (jss_one (js_ret je_bl)) jss_nil))))) (jss_cons (js_if ((jw_or (jt_cmp (op_neK (by rfl) hr.units) s_ne (je_call ((ok_order T).mono (by decide)) hr (ja_cons (je_call ((ok_endless T).mono (by decide)) hr (ja_cons (je_op (op_addA (by rfl)) s_add (je_var 1) (je_var 1)) ja_nil)) (ja_cons (je_var 2) ja_nil))) je_int) (jw_or1 (jt_cmp (op_neK (by rfl) hr.units) s_ne (je_call ((ok_order T).mono (by decide)) hr (ja_cons (je_call ((ok_endless T).mono (by decide)) hr (ja_cons (je_call ((ok_turned T).mono (by decide)) hr (ja_cons (je_var 1) ja_nil)) ja_nil)) (ja_cons (je_tup (ja_cons je_str (ja_cons (je_op op_sub s_sub je_int (je_var 6)) (ja_cons (je_op op_sub s_sub je_int (je_var 5)) (ja_cons (je_op op_sub s_sub je_int (je_var 4)) ja_nil))))) ja_nil))) je_int)))).jt (jss_one (js_ret je_bl)) jss_nil) (jss_cons (js_set (i := 13) sc__law_case.nd (je_op (op_addA (by rfl)) s_add je_int (je_call ((ok__law_draw T).mono (by decide)) hr (ja_cons (je_var 0) (ja_cons je_int ja_nil))))) (jss_cons (js_set (i := 9) sc__law_case.nd (je_call ((ok__law_after T).mono (by decide)) hr (ja_cons (je_var 1) (ja_cons (je_var 13) (ja_cons je_non ja_nil))))) (jss_cons (js_if (jt_cmp op_notN s_notN (je_var 9) je_non) (jss_cons (js_setLc (i := 14) rfl (own := [("k", 17)]) sc__law_case.nd (ji_rng2 T.b_range (ja_cons je_int (ja_cons (je_op (op_addA (by rfl)) s_add (je_var 13) je_int) ja_nil))) (blkOk_by (N := n__law_case) (sc := defScope s__law_case) (by decide +kernel)) (keeps_name (by decide)) (fun _ _ _ _ _ => (jg_name (i := 17) sc__law_case.nd)) (fun _ _ _ _ _ => (jts_one ((jw_and (jt_cmp op_notN s_notN (je_call ((ok__law_after T).mono (by decide)) hr (ja_cons (je_var 1) (ja_cons (je_var 17) (ja_cons je_non ja_nil)))) je_non) (jw_and1 (jt_cmp op_lt s_cmp (je_ix (je_call ((ok__law_sub T).mono (by decide)) hr (ja_cons (je_call ((ok__law_after T).mono (by decide)) hr (ja_cons (je_var 1) (ja_cons (je_var 17) (ja_cons je_non ja_nil)))) (ja_cons (je_var 9) ja_nil))) je_int) je_int)))).jt)) (fun _ _ _ _ _ => (je_var 17))) (jss_one (js_if (jt_cmp (op_neK (by rfl) hr.units) s_ne (je_call ((ok__law_told T).mono (by decide)) hr (ja_cons (je_fn (ok_parts_enough T)) (ja_cons (je_tup (ja_cons (je_var 1) (ja_cons (je_var 9) ja_nil))) ja_nil))) (je_ix (je_var 14) je_int)) (jss_one (js_ret je_bl)) jss_nil))) jss_nil) (jss_cons (js_if ((jw_or (jt_cmp op_notN s_notN (je_call ((ok__law_told T).mono (by decide)) hr (ja_cons (je_fn (ok_parts_enough T)) (ja_cons (je_tup (ja_cons (je_var 1) (ja_cons (je_call ((ok__law_after T).mono (by decide)) hr (ja_cons (je_var 1) (ja_cons (je_var 13) (ja_cons (je_tup (ja_cons je_int (ja_cons je_int ja_nil))) ja_nil)))) ja_nil))) ja_nil))) je_non) (jw_or1 (jt_cmp op_notN s_notN (je_call ((ok__law_told T).mono (by decide)) hr (ja_cons (je_fn (ok_parts_enough T)) (ja_cons (je_tup (ja_cons (je_var 1) (ja_cons (je_tup (ja_cons je_int (ja_cons je_int ja_nil))) ja_nil))) ja_nil))) je_non)))).jt (jss_one (js_ret je_bl)) jss_nil) (jss_cons (js_set (i := 15) sc__law_case.nd (je_ct (call_tupleK (by rfl)) sc_tuple T.b_tuple (ja_cons (je_lc rfl (own := [("part", 18)]) sc__law_case.nd (ji_any (je_var 1)) (blkOk_by (N := n__law_case) (sc := defScope s__law_case) (by decide +kernel)) (keeps_name (by decide)) (fun _ _ _ _ _ => (jg_name (i := 18) sc__law_case.nd)) (fun _ _ _ _ _ => (jts_one (jt_cmp (op_eqK (by rfl) hr.units) s_eq (je_ix (je_var 18) je_int) je_str))) (fun _ _ _ _ _ => (je_var 18))) ja_nil))) (jss_cons (js_set (i := 16) sc__law_case.nd (je_ct (call_tupleK (by rfl)) sc_tuple T.b_tuple (ja_cons (je_lc rfl (own := [("part", 18)]) sc__law_case.nd (ji_any (je_var 1)) (blkOk_by (N := n__law_case) (sc := defScope s__law_case) (by decide +kernel)) (keeps_name (by decide)) (fun _ _ _ _ _ => (jg_name (i := 18) sc__law_case.nd)) (fun _ _ _ _ _ => (jts_one (jt_cmp (op_eqK (by rfl) hr.units) s_eq (je_ix (je_var 18) je_int) je_str))) (fun _ _ _ _ _ => (je_var 18))) ja_nil))) (jss_cons (js_if ((jw_or (jt_cmp (op_neK (by rfl) hr.units) s_ne (je_lc rfl (own := [("odd", 19)]) sc__law_case.nd (ji_any (je_lst (ja_cons (je_var 15) (ja_cons (je_var 16) ja_nil)))) (blkOk_by (N := n__law_case) (sc := defScope s__law_case) (by decide +kernel)) (keeps_name (by decide)) (fun _ _ _ _ _ => (jg_name (i := 19) sc__law_case.nd)) (fun _ _ _ _ _ => jts_nil) (fun _ _ _ _ _ => (je_call ((ok__law_told T).mono (by decide)) hr (ja_cons (je_fn (ok_endless T)) (ja_cons (je_tup (ja_cons (je_var 19) ja_nil)) ja_nil))))) (je_op (op_mulA (by rfl)) s_mul (je_lst (ja_cons je_str ja_nil)) je_int)) (jw_or1 (jt_cmp (op_neK (by rfl) hr.units) s_ne (je_call ((ok__law_told T).mono (by decide)) hr (ja_cons (je_fn (ok_parts_enough T)) (ja_cons (je_tup (ja_cons (je_var 15) (ja_cons (je_tup (ja_cons je_int (ja_cons je_int ja_nil))) ja_nil))) ja_nil))) je_str)))).jt (jss_one (js_ret je_bl)) jss_nil) (jss_one (js_ret (je_and (je_cmp (op_eqK (by rfl) hr.units) s_eq (je_lc rfl (own := [("odd", 19)]) sc__law_case.nd (ji_any (je_lst (ja_cons je_non (ja_cons (je_tup ja_nil) (ja_cons (je_tup (ja_cons (je_tup (ja_cons je_str (ja_cons (je_tup (ja_cons je_int (ja_cons je_int ja_nil))) ja_nil))) ja_nil)) ja_nil))))) (blkOk_by (N := n__law_case) (sc := defScope s__law_case) (by decide +kernel)) (keeps_name (by decide)) (fun _ _ _ _ _ => (jg_name (i := 19) sc__law_case.nd)) (fun _ _ _ _ _ => jts_nil) (fun _ _ _ _ _ => (je_call ((ok__law_told T).mono (by decide)) hr (ja_cons (je_fn (ok_endless T)) (ja_cons (je_tup (ja_cons (je_var 19) ja_nil)) ja_nil))))) (je_op (op_mulA (by rfl)) s_mul (je_lst (ja_cons je_str ja_nil)) je_int)) (je_one (je_cmp (op_eqK (by rfl) hr.units) s_eq (je_lc rfl (own := [("odd", 19)]) sc__law_case.nd (ji_any (je_lst (ja_cons je_non (ja_cons (je_tup (ja_cons je_int (ja_cons je_int ja_nil))) ja_nil)))) (blkOk_by (N := n__law_case) (sc := defScope s__law_case) (by decide +kernel)) (keeps_name (by decide)) (fun _ _ _ _ _ => (jg_name (i := 19) sc__law_case.nd)) (fun _ _ _ _ _ => jts_nil) (fun _ _ _ _ _ => (je_call ((ok__law_told T).mono (by decide)) hr (ja_cons (je_fn (ok_parts_enough T)) (ja_cons (je_tup (ja_cons (je_var 1) (ja_cons (je_var 19) ja_nil))) ja_nil))))) (je_op (op_mulA (by rfl)) s_mul (je_lst (ja_cons je_str ja_nil)) je_int))))))))))))))))))))))⟩)
/-- _law_bag(script, k) -/
def r__law_bag : MF := mDef backT 2 3 ((mSeq (mAsg (mC (.int 0)) (mgName 2)) (mSeq (mIfS (mTest (mOp ltD (mVar 1) (mCB lenF (mCons (mVar 0) mNil)))) (mAsg (mCB intF (mCons (mOp ixD (mVar 0) (mVar 1)) mNil)) (mgName 2)) mNext) (mSeq (mIfS (mTest (mOp geD (mVar 2) (mOp powD (mC (.int 10)) (mC (.int 18))))) (mRet (mNew (mCons (mVar 2) (mCons (mVar 2) (mCons (mVar 1) mNil))))) mNext) (mRet (mNew (mCons (mC (.int 0)) (mCons (mVar 2) (mCons (mVar 1) mNil)))))))))
theorem ok__law_bag (T : Top G.K mg G) : FnD P w G.K mg base G 1 "_law_bag" 2 r__law_bag := by
  exact def_e rfl (back := backT) (N := n__law_bag) (ps := p__law_bag) backT_ok T.f__law_bag sc__law_bag (fun _ _ _ _ _ _ us hl => match us, hl with | [_, _], _ => rfl) (fun f cdv A outer s H E hr W => ⟨_, (jss_cons (js_set (i := 2) sc__law_bag.nd je_int) (jss_cons (js_if (jt_cmp op_lt s_cmp (je_var 1) (je_cb (call_lenA (by rfl)) sc_len T.b_len (ja_cons (je_var 0) ja_nil))) (jss_one (js_set (i := 2) sc__law_bag.nd (je_ct call_int1 sc_int T.b_int (ja_cons (je_ix (je_var 0) (je_var 1)) ja_nil)))) jss_nil) (jss_cons (js_if (jt_cmp op_ge s_cmp (je_var 2) (je_op op_pow s_pow je_int je_int)) (jss_one (js_ret (je_new (ja_cons (je_var 2) (ja_cons (je_var 2) (ja_cons (je_var 1) ja_nil)))))) jss_nil) (jss_one (js_ret (je_new (ja_cons je_int (ja_cons (je_var 2) (ja_cons (je_var 1) ja_nil)))))))))⟩)
/-- law(script) -/
def b_law_3 : MS := (mIfS (mNot (mTest (mCall 1 r__law_case (mCons (mCall 2 r__law_bag (mCons (mVar 0) (mCons (mVar 1) mNil))) mNil)))) (mRet (mC (.bl false))) mNext)
def l_law_3 : MS := (mFor (mRng1 (mCons (mCB min2F (mCons (mCB max2F (mCons (mCB lenF (mCons (mVar 0) mNil)) (mCons (mC (.int 1)) mNil))) (mCons (mC (.int 4)) mNil))) mNil)) (mgName 1) b_law_3)
def t_law_6 : MS := (mRet (mC (.bl true)))
def t_law_3 : MS := (mSeq l_law_3 t_law_6)
def r_law : MF := mDef backF 1 2 ((mSeq (mIfS (mOr (mTest (mOp neD (mCall 1 r_endless (mCons (mTup (mCons (mTup (mCons (mC (.str "row")) (mCons (mTup (mCons (mC (.int 1)) (mCons (mC (.int 1)) mNil))) mNil))) (mCons (mTup (mCons (mC (.str "beside")) (mCons (mTup (mCons (mC (.int 1)) (mCons (mC (.int 1)) mNil))) mNil))) mNil))) mNil)) (mTup (mCons (mC (.str "root")) (mCons (mC (.int 1)) (mCons (mUn negD (mC (.int 1))) (mCons (mUn negD (mC (.int 1))) mNil))))))) (mTest (mOp neD (mCall 1 r_endless (mCons (mTup (mCons (mTup (mCons (mC (.str "row")) (mCons (mTup (mCons (mC (.int 1)) (mCons (mC (.int 1)) mNil))) mNil))) (mCons (mTup (mCons (mC (.str "beside")) (mCons (mTup (mCons (mC (.int 2)) (mCons (mC (.int 1)) mNil))) mNil))) mNil))) mNil)) (mTup (mCons (mC (.str "root")) (mCons (mC (.int 1)) (mCons (mUn negD (mC (.int 1))) (mCons (mUn negD (mC (.int 2))) mNil)))))))) (mRet (mC (.bl false))) mNext) t_law_3))
theorem fn_law (T : Top G.K mg G) {f : Addr} {fd : FuncData} (F : Fun G.K "law" "law" s_law f fd) : FnOk P w G.K mg base (L2.CX P w) 10 f fd p_law (spD G G.K 1 r_law) :=
  def_fn rfl (back := backF) (N := n_law) (ps := p_law) backF_ok F sc_law (fun cdv A outer s H E hr W => ⟨_, (jss_cons (js_if ((jw_or (jt_cmp (op_neK (by rfl) hr.units) s_ne (je_call ((ok_endless T).mono (by decide)) hr (ja_cons (je_tup (ja_cons (je_tup (ja_cons je_str (ja_cons (je_tup (ja_cons je_int (ja_cons je_int ja_nil))) ja_nil))) (ja_cons (je_tup (ja_cons je_str (ja_cons (je_tup (ja_cons je_int (ja_cons je_int ja_nil))) ja_nil))) ja_nil))) ja_nil)) (je_tup (ja_cons je_str (ja_cons je_int (ja_cons (je_neg je_int) (ja_cons (je_neg je_int) ja_nil)))))) (jw_or1 (jt_cmp (op_neK (by rfl) hr.units) s_ne (je_call ((ok_endless T).mono (by decide)) hr (ja_cons (je_tup (ja_cons (je_tup (ja_cons je_str (ja_cons (je_tup (ja_cons je_int (ja_cons je_int ja_nil))) ja_nil))) (ja_cons (je_tup (ja_cons je_str (ja_cons (je_tup (ja_cons je_int (ja_cons je_int ja_nil))) ja_nil))) ja_nil))) ja_nil)) (je_tup (ja_cons je_str (ja_cons je_int (ja_cons (je_neg je_int) (ja_cons (je_neg je_int) ja_nil))))))))).jt (jss_one (js_ret je_bl)) jss_nil) (jss_cons (js_for rfl (ji_rng1 T.b_range (ja_cons (je_cb (call_min2 rfl) sc_min2 T.b_min (ja_cons (je_cb (call_max2 rfl) sc_max2 T.b_max (ja_cons (je_cb (call_lenA (by rfl)) sc_len T.b_len (ja_cons (je_var 0) ja_nil)) (ja_cons je_int ja_nil))) (ja_cons je_int ja_nil))) ja_nil)) (jg_name (i := 1) sc_law.nd) (jss_one (js_if (jt_not (jt_val (je_call ((ok__law_case T).mono (by decide)) hr (ja_cons (je_call ((ok__law_bag T).mono (by decide)) hr (ja_cons (je_var 0) (ja_cons (je_var 1) ja_nil))) ja_nil)))) (jss_one (js_ret je_bl)) jss_nil))) (jss_one (js_ret je_bl))))⟩)
end
end
end K71


namespace K71
open PySem PySem.Spec PyProof.Rows L2 DL
local macro_rules | `(tactic| walk_at "sem1") => `(tactic| (simp only [mDef, mSeq, mRet, mRetN, mNext, mIfS, mAsg, mExpr, mPar, mPar3, toOut, mOp, mUn, mVar, mC, mTest, mCall, mCons, mNil, mgName, mgTup, mgCons, mgNil, mgSub, noEx, outR, mCB, mTup, mLst, mIsi, mAnd, mOr, mNot, mAndV, mOrV, mNotV, mIf, mChain, mRaise, mPart, mNoPart, mSl, mYes,
  R.bind_ok, R.bind_ex, R.bind_stuck, List.length_cons, List.length_nil, List.map_cons, List.map_nil, List.replicate_zero, List.replicate_succ, List.cons_append, List.nil_append, List.append_nil, List.getElem?_cons_zero, List.getElem?_cons_succ, List.set_cons_zero, List.set_cons_succ, Nat.sub_self, Nat.add_one_sub_one, Nat.reduceAdd, Nat.reduceSub, Nat.reduceLeDiff, if_true, if_false, reduceIte, backT, backF,
  eqD_int, neD_int, addD_int, subD, cmpD, negD, absF, intF, max2F, min2F, modD, bne_iff_ne, Bool.not_true, Bool.not_false, beq_self_eq_true]))
local macro_rules | `(tactic| walk_at "sem") => `(tactic| (repeat walk_at "sem1"))
/-! ### the program's fractions -/
theorem common_ok (p q : Int) (s : Sto) : r_common [.int p, .int q] s = .ok (.int (Int.gcd p q : Nat)) s := by
  unfold r_common
  obtain ⟨g, h1, _, h3⟩ := euclid_while (i := 0) (j := 1) (by decide) q.natAbs p q [some (.int p), some (.int q)] s (Nat.le_refl _) rfl rfl
  walk_at "sem"
  rw [h3]
  walk_at "sem"
  have e : (if g < 0 then -g else g) = ((Int.gcd p q : Nat) : Int) := by split <;> omega
  rw [e]
theorem gcd_small {p q : Int} {N : Nat} (hq : q.natAbs < 2 ^ N) (h0 : q ≠ 0) : ((Int.gcd p q : Nat) : Int) ≠ 0 ∧ ((Int.gcd p q : Nat) : Int).natAbs < 2 ^ N := by
  have h1 : 0 < Int.gcd p q := Int.gcd_pos_of_ne_zero_right _ h0
  have h2 : Int.gcd p q ≤ q.natAbs := Int.gcd_le_natAbs_right _ h0
  omega
theorem fraction_ok {p q : Int} {N : Nat} (s : Sto) (hq : q.natAbs < 2 ^ N) (h0 : q ≠ 0) (hN : 0 < N) (h9 : N ≤ 9000) : r_fraction [.int p, .int q] s = .ok (fr (Rat.divInt p q)) s := by
  have pos : ∀ {p q : Int}, q.natAbs < 2 ^ N → 0 < q → (fdivD (.int p) (.int (Int.gcd p q : Nat)) s).bind (fun d s1 => (fdivD (.int q) (.int (Int.gcd p q : Nat)) s1).bind fun e s2 => .ok [d, e] s2) = .ok [.int (Rat.divInt p q).num, .int (Rat.divInt p q).den] s := fun {p q} hq h0 => by
    obtain ⟨g0, g1⟩ := gcd_small (p := p) hq (by omega)
    have hd := divOk_of g0 g1 hN h9
    simp only [fdivD, hd, if_true, R.bind_ok]
    rw [divInt_num h0, divInt_den h0]
  unfold r_fraction
  walk_at "sem"
  have e0 : (q == 0) = false := by simp [h0]
  rw [e0]
  walk_at "sem"
  by_cases hneg : q < 0
  · have e1 : decide (q < 0) = true := by simp [hneg]
    rw [e1]
    walk_at "sem"
    rw [common_ok]
    walk_at "sem"
    have k := pos (p := -p) (q := -q) (by rw [Int.natAbs_neg]; exact hq) (by omega)
    rw [Rat.neg_divInt_neg] at k
    obtain ⟨g0, g1⟩ := gcd_small (p := -p) (q := -q) (N := N) (by rw [Int.natAbs_neg]; exact hq) (by omega)
    have hd := divOk_of g0 g1 hN h9
    simp only [fdivD, hd, if_true, R.bind_ok] at k ⊢
    injection k with k1 k2
    simp only [List.cons.injEq, D.int.injEq, and_true] at k1
    rw [k1.1, k1.2]
    walk_at "sem"
    rfl
  · have e1 : decide (q < 0) = false := by simp [hneg]
    rw [e1]
    walk_at "sem"
    rw [common_ok]
    walk_at "sem"
    have k := pos (p := p) (q := q) hq (by omega)
    obtain ⟨g0, g1⟩ := gcd_small (p := p) (q := q) (N := N) hq (by omega)
    have hd := divOk_of g0 g1 hN h9
    simp only [fdivD, hd, if_true, R.bind_ok] at k ⊢
    injection k with k1 k2
    simp only [List.cons.injEq, D.int.injEq, and_true] at k1
    rw [k1.1, k1.2]
    walk_at "sem"
    rfl

theorem ix0 (x : Rat) (s : Sto) : ixD (fr x) (.int 0) s = .ok (.int x.num) s := rfl
theorem ix1 (x : Rat) (s : Sto) : ixD (fr x) (.int 1) s = .ok (.int (x.den : Int)) s := rfl
theorem mulD_of {i j : Int} {a b : Nat} (s : Sto) (ha : i.natAbs < 2 ^ a) (hb : j.natAbs < 2 ^ b) (h0 : 0 < a) (h1 : 0 < b) (h : a + b ≤ 1000000) : mulD (.int i) (.int j) s = .ok (.int (i * j)) s := by
  simp only [mulD, mulOk_of ha hb h0 h1 h, if_true]
theorem den_mul_ne (x y : Rat) : (x.den : Int) * (y.den : Int) ≠ 0 := by
  have h1 := x.den_nz
  have h2 := y.den_nz
  exact Int.mul_ne_zero (by omega) (by omega)
theorem plus_ok {x y : Rat} {M N : Nat} (s : Sto) (hx : Sm M x) (hy : Sm N y) (hM : 0 < M) (hN : 0 < N) (h : M + N ≤ 9000) : r_plus [fr x, fr y] s = .ok (fr (x + y)) s := by
  unfold r_plus
  walk_at "sem"
  simp only [ix0, ix1, R.bind_ok]
  rw [mulD_of s hx.1 (den_lt hy) hM hN (by omega)]
  simp only [R.bind_ok]
  rw [mulD_of s hy.1 (den_lt hx) hN hM (by omega)]
  walk_at "sem"
  rw [mulD_of s (den_lt hx) (den_lt hy) hM hN (by omega)]
  walk_at "sem"
  rw [fraction_ok (N := M + N) s (natAbs_mul_lt (den_lt hx) (den_lt hy)) (den_mul_ne x y) (by omega) h, add_divInt]
  walk_at "sem"
theorem plus_sm {x y : Rat} {M N : Nat} (hx : Sm M x) (hy : Sm N y) : Sm (M + N + 1) (x + y) := by
  rw [add_divInt]
  refine divInt_sm (natAbs_add_lt (natAbs_mul_lt hx.1 (den_lt hy)) (by rw [Nat.add_comm]; exact natAbs_mul_lt hy.1 (den_lt hx))) ?_ (den_mul_ne x y)
  exact Nat.lt_of_lt_of_le (natAbs_mul_lt (den_lt hx) (den_lt hy)) (Nat.pow_le_pow_right (by decide) (by omega))
theorem minus_ok {x y : Rat} {M N : Nat} (s : Sto) (hx : Sm M x) (hy : Sm N y) (hM : 0 < M) (hN : 0 < N) (h : M + N ≤ 9000) : r_minus [fr x, fr y] s = .ok (fr (x - y)) s := by
  unfold r_minus
  walk_at "sem"
  simp only [ix0, ix1, R.bind_ok]
  rw [mulD_of s hx.1 (den_lt hy) hM hN (by omega)]
  simp only [R.bind_ok]
  rw [mulD_of s hy.1 (den_lt hx) hN hM (by omega)]
  walk_at "sem"
  rw [mulD_of s (den_lt hx) (den_lt hy) hM hN (by omega)]
  walk_at "sem"
  rw [fraction_ok (N := M + N) s (natAbs_mul_lt (den_lt hx) (den_lt hy)) (den_mul_ne x y) (by omega) h, sub_divInt]
  walk_at "sem"
theorem minus_sm {x y : Rat} {M N : Nat} (hx : Sm M x) (hy : Sm N y) : Sm (M + N + 1) (x - y) := by
  rw [sub_divInt]
  refine divInt_sm (natAbs_sub_lt (natAbs_mul_lt hx.1 (den_lt hy)) (by rw [Nat.add_comm]; exact natAbs_mul_lt hy.1 (den_lt hx))) ?_ (den_mul_ne x y)
  exact Nat.lt_of_lt_of_le (natAbs_mul_lt (den_lt hx) (den_lt hy)) (Nat.pow_le_pow_right (by decide) (by omega))
theorem sign_ok (x : Rat) (s : Sto) : r_sign [fr x] s = .ok (.int (x.num.sign)) s := by
  unfold r_sign
  walk_at "sem"
  simp only [ix0, R.bind_ok]
  walk_at "sem"
  rcases Int.lt_trichotomy x.num 0 with h | h | h
  · rw [decide_eq_false (show ¬ (0 < x.num) by omega), decide_eq_true h, Int.sign_eq_neg_one_of_neg h]; rfl
  · rw [h]; rfl
  · rw [decide_eq_true h, decide_eq_false (show ¬ (x.num < 0) by omega), Int.sign_eq_one_of_pos h]; rfl
theorem num_ne {y : Rat} (h : y ≠ 0) : y.num ≠ 0 := fun e => h (Rat.num_eq_zero.mp e)
theorem den_ne (x : Rat) : (x.den : Int) ≠ 0 := by have := x.den_nz; omega
/-! ### the law's fractions -/
theorem lfr_ok {p q : Int} {N : Nat} (s : Sto) (hq : q.natAbs < 2 ^ N) (h0 : q ≠ 0) (hN : 0 < N) (h9 : N ≤ 9000) : r__law_fr [.int p, .int q] s = .ok (fr (Rat.divInt p q)) s := by
  obtain ⟨g, h1, h2, h3⟩ := euclid_while (i := 2) (j := 3) (by decide) (if q < 0 then -q else q).natAbs (if p < 0 then -p else p) (if q < 0 then -q else q) [some (.int p), some (.int q), some (.int (if p < 0 then -p else p)), some (.int (if q < 0 then -q else q))] s (Nat.le_refl _) rfl rfl
  have hg0 : 0 ≤ g := h2 (by split <;> omega) (by split <;> omega)
  have hgcd : g = ((Int.gcd p q : Nat) : Int) := by
    have e : Int.gcd (if p < 0 then -p else p) (if q < 0 then -q else q) = Int.gcd p q := by
      unfold Int.gcd
      have e1 : (if p < 0 then -p else p).natAbs = p.natAbs := by split <;> omega
      have e2 : (if q < 0 then -q else q).natAbs = q.natAbs := by split <;> omega
      rw [e1, e2]
    omega
  subst hgcd
  obtain ⟨g0, g1⟩ := gcd_small (p := p) hq h0
  unfold r__law_fr
  walk_at "sem"
  rw [h3]
  walk_at "sem"
  by_cases hneg : q < 0
  · have e1 : decide (q < 0) = true := by simp [hneg]
    rw [e1]
    walk_at "sem"
    have hd : divOk (0 - ((Int.gcd p q : Nat) : Int)) = true := divOk_of (by omega) (show (0 - ((Int.gcd p q : Nat) : Int)).natAbs < 2 ^ N by omega) hN h9
    simp only [fdivD, hd, if_true, R.bind_ok]
    walk_at "sem"
    have ep : p.fdiv (0 - ((Int.gcd p q : Nat) : Int)) = (Rat.divInt p q).num := by
      rw [← Rat.neg_divInt_neg, divInt_num (by omega), Int.zero_sub, Int.neg_gcd, Int.gcd_neg, Int.fdiv_eq_ediv_of_dvd (by rw [Int.neg_dvd]; exact Int.gcd_dvd_left ..), Int.fdiv_eq_ediv_of_nonneg _ (by omega), Int.ediv_neg, Int.neg_ediv_of_dvd (Int.gcd_dvd_left ..)]
    have eq : q.fdiv (0 - ((Int.gcd p q : Nat) : Int)) = ((Rat.divInt p q).den : Int) := by
      rw [← Rat.neg_divInt_neg, divInt_den (by omega), Int.zero_sub, Int.neg_gcd, Int.gcd_neg, Int.fdiv_eq_ediv_of_dvd (by rw [Int.neg_dvd]; exact Int.gcd_dvd_right ..), Int.fdiv_eq_ediv_of_nonneg _ (by omega), Int.ediv_neg, Int.neg_ediv_of_dvd (Int.gcd_dvd_right ..)]
    rw [ep, eq]
    rfl
  · have e1 : decide (q < 0) = false := by simp [hneg]
    rw [e1]
    walk_at "sem"
    have hd := divOk_of g0 g1 hN h9
    simp only [fdivD, hd, if_true, R.bind_ok]
    walk_at "sem"
    rw [← divInt_num (by omega), ← divInt_den (by omega)]
    rfl
theorem ladd_ok {x y : Rat} {M N : Nat} (s : Sto) (hx : Sm M x) (hy : Sm N y) (hM : 0 < M) (hN : 0 < N) (h : M + N ≤ 9000) : r__law_add [fr x, fr y] s = .ok (fr (x + y)) s := by
  unfold r__law_add
  walk_at "sem"
  simp only [ix0, ix1, R.bind_ok]
  rw [mulD_of s hx.1 (den_lt hy) hM hN (by omega)]
  simp only [R.bind_ok]
  rw [mulD_of s hy.1 (den_lt hx) hN hM (by omega)]
  walk_at "sem"
  rw [mulD_of s (den_lt hx) (den_lt hy) hM hN (by omega)]
  walk_at "sem"
  rw [lfr_ok (N := M + N) s (natAbs_mul_lt (den_lt hx) (den_lt hy)) (den_mul_ne x y) (by omega) h, add_divInt]
  walk_at "sem"
theorem draw_ok {s : Sto} {n : Nat} (h : BagAt s n) {many : Int} (h0 : 0 < many) (h1 : many < 2 ^ 62) :
    ∃ (r : Int) (s' : Sto), r__law_draw [.ref n, .int many] s = .ok (.int r) s' ∧ 0 ≤ r ∧ r < many ∧ Drew s s' n := by
  obtain ⟨a, b, c, hb, hc⟩ := h
  have hn : n < s.length := (List.getElem?_eq_some_iff.mp hb).1
  have hd : divOk many = true := divOk_of (b := 62) (by omega) (by omega) (by decide) (by decide)
  have st : ∀ (s : Sto) (x y z v : D), s[n]? = some (.lst [x, y, z]) → setD (.ref n) (.int 0) v s = .ok () (s.set n (.lst [v, y, z])) := fun s x y z v h1 => by
    simp only [setD, h1]; rfl
  have st1 : ∀ (s : Sto) (x y z v : D), s[n]? = some (.lst [x, y, z]) → setD (.ref n) (.int 1) v s = .ok () (s.set n (.lst [x, v, z])) := fun s x y z v h1 => by
    simp only [setD, h1]; rfl
  -- what comes behind the seed
  have tail : ∀ (s : Sto) (x y z : Int) (l2 : Option D), s[n]? = some (.lst [.int x, .int y, .int z]) → z.natAbs < 2 ^ 64 →
      ∃ (r : Int) (s' : Sto), outR (mSeq (mAsg (mOp ixD (mVar 0) (mC (.int 0))) (mgName 3)) (mSeq (mAsg (mOp fdivD (mVar 3) (mVar 1)) (mgSub setD (mVar 0) (mC (.int 0)))) (mRet (mOp modD (mCB intF (mCons (mVar 3) mNil)) (mVar 1)))) [some (.ref n), some (.int many), l2, none] s) = .ok (.int r) s' ∧ 0 ≤ r ∧ r < many ∧ Drew s s' n := fun s x y z l2 h1 hz => by
    refine ⟨x.fmod many, s.set n (.lst [.int (x.fdiv many), .int y, .int z]), ?_, Int.fmod_nonneg_of_pos x h0, Int.fmod_lt_of_pos x h0, _, _, _, rfl, hz⟩
    walk_at "sem"
    rw [ixAt (k := 0) (v := .int x) h1 rfl]
    walk_at "sem"
    simp only [fdivD, hd, if_true, R.bind_ok, mgSub]
    walk_at "sem"
    rw [st s _ _ _ _ h1]
    walk_at "sem"
    rw [if_neg (by omega)]
    walk_at "sem"
  have len : ∀ (r : Int) (s' : Sto), Drew s s' n → backF s.length (.ok (.int r) s') = .ok (.int r) s' := fun r s' hd => by
    simp only [backF, hd.len, if_true]
  have e48 : mulOk b 48271 = true := mulOk_r (by decide)
  have e69 : mulOk c 69621 = true := mulOk_r (by decide)
  have e16 : mulOk c 16807 = true := mulOk_r (by decide)
  have i0 := ixAt (k := 0) (v := .int a) hb rfl
  have i1 := ixAt (k := 1) (v := .int b) hb rfl
  have i2 := ixAt (k := 2) (v := .int c) hb rfl
  unfold r__law_draw
  simp only [mDef, List.length_cons, List.length_nil, Nat.reduceAdd, if_true, List.map_cons, List.map_nil, Nat.reduceSub, List.replicate_succ, List.replicate_zero, List.cons_append, List.nil_append]
  by_cases ha : a = 0
  · subst ha
    obtain ⟨r, s', h2, h3, h4, h5⟩ := tail (s.set n (.lst [.int ((b * 48271 + c * 69621 + 11).fmod 2147483647 * 2147483629 + ((b * 48271 + c * 69621 + 11).fmod 2147483647 * (b * 48271 + c * 69621 + 11).fmod 2147483647 + c * 16807).fmod 2147483629), .int ((b * 48271 + c * 69621 + 11).fmod 2147483647), .int c])) _ _ _ (some (.int ((b * 48271 + c * 69621 + 11).fmod 2147483647))) (by rw [List.getElem?_set_self hn]) hc
    have d5 : Drew s s' n := by
      obtain ⟨x, y, z, e, hz⟩ := h5
      exact ⟨x, y, z, by rw [e, List.set_set], hz⟩
    refine ⟨r, s', ?_, h3, h4, d5⟩
    rw [← len r s' d5, ← h2]
    congr 1
    congr 1
    conv => lhs; rw [mSeq]
    have hs1 := Int.fmod_nonneg_of_pos (b * 48271 + c * 69621 + 11) (show (0 : Int) < 2147483647 by decide)
    have hs2 := Int.fmod_lt_of_pos (b * 48271 + c * 69621 + 11) (show (0 : Int) < 2147483647 by decide)
    have eA : mulOk ((b * 48271 + c * 69621 + 11).fmod 2147483647) 2147483629 = true := mulOk_r (by decide)
    have eB : mulOk ((b * 48271 + c * 69621 + 11).fmod 2147483647) ((b * 48271 + c * 69621 + 11).fmod 2147483647) = true := mulOk_l (by omega)
    generalize mSeq (mAsg (mOp ixD (mVar 0) (mC (.int 0))) (mgName 3)) (mSeq (mAsg (mOp fdivD (mVar 3) (mVar 1)) (mgSub setD (mVar 0) (mC (.int 0)))) (mRet (mOp modD (mCB intF (mCons (mVar 3) mNil)) (mVar 1)))) = rest
    repeat (first | walk_at "sem1" | simp only [i0, i1, i2, mulD, e48, e69, e16, eA, eB, (by decide : ¬ ((2147483647 : Int) = 0)), (by decide : ¬ ((2147483629 : Int) = 0))])
    rw [st s _ _ _ _ hb]
    walk_at "sem"
    rw [st1 _ _ _ _ _ (by rw [List.getElem?_set_self hn])]
    walk_at "sem"
    rw [List.set_set]
  · obtain ⟨r, s', h2, h3, h4, h5⟩ := tail s a b c none hb hc
    refine ⟨r, s', ?_, h3, h4, h5⟩
    rw [← len r s' h5, ← h2]
    congr 1
    congr 1
    conv => lhs; rw [mSeq]
    generalize mSeq (mAsg (mOp ixD (mVar 0) (mC (.int 0))) (mgName 3)) (mSeq (mAsg (mOp fdivD (mVar 3) (mVar 1)) (mgSub setD (mVar 0) (mC (.int 0)))) (mRet (mOp modD (mCB intF (mCons (mVar 3) mNil)) (mVar 1)))) = rest
    have e0 : (a == 0) = false := by simp [ha]
    repeat (first | walk_at "sem1" | simp only [i0, e0])
theorem times_ok {x y : Rat} {M N : Nat} (s : Sto) (hx : Sm M x) (hy : Sm N y) (hM : 0 < M) (hN : 0 < N) (h : M + N ≤ 9000) : r_times [fr x, fr y] s = .ok (fr (x * y)) s := by
  unfold r_times
  walk_at "sem"
  simp only [ix0, ix1, R.bind_ok]
  rw [mulD_of s hx.1 hy.1 hM hN (by omega)]
  simp only [R.bind_ok]
  rw [mulD_of s (den_lt hx) (den_lt hy) hM hN (by omega)]
  walk_at "sem"
  rw [fraction_ok (N := M + N) s (natAbs_mul_lt (den_lt hx) (den_lt hy)) (den_mul_ne x y) (by omega) h, mul_divInt]
  walk_at "sem"
theorem times_sm {x y : Rat} {M N : Nat} (hx : Sm M x) (hy : Sm N y) : Sm (M + N) (x * y) := by
  rw [mul_divInt]
  exact divInt_sm (natAbs_mul_lt hx.1 hy.1) (natAbs_mul_lt (den_lt hx) (den_lt hy)) (den_mul_ne x y)
theorem over_ok {x y : Rat} {M N : Nat} (s : Sto) (hx : Sm M x) (hy : Sm N y) (h0 : y ≠ 0) (hM : 0 < M) (hN : 0 < N) (h : M + N ≤ 9000) : r_over [fr x, fr y] s = .ok (fr (x / y)) s := by
  unfold r_over
  walk_at "sem"
  simp only [ix0, ix1, R.bind_ok]
  rw [mulD_of s hx.1 (den_lt hy) hM hN (by omega)]
  simp only [R.bind_ok]
  rw [mulD_of s (den_lt hx) hy.1 hM hN (by omega)]
  walk_at "sem"
  rw [fraction_ok (N := M + N) s (natAbs_mul_lt (den_lt hx) hy.1) (Int.mul_ne_zero (den_ne x) (num_ne h0)) (by omega) h, div_divInt]
  walk_at "sem"
theorem over_sm {x y : Rat} {M N : Nat} (hx : Sm M x) (hy : Sm N y) (h0 : y ≠ 0) : Sm (M + N) (x / y) := by
  rw [div_divInt]
  exact divInt_sm (natAbs_mul_lt hx.1 (den_lt hy)) (natAbs_mul_lt (den_lt hx) hy.1) (Int.mul_ne_zero (den_ne x) (num_ne h0))
theorem lsub_ok {x y : Rat} {M N : Nat} (s : Sto) (hx : Sm M x) (hy : Sm N y) (hM : 0 < M) (hN : 0 < N) (h : M + N ≤ 9000) : r__law_sub [fr x, fr y] s = .ok (fr (x - y)) s := by
  unfold r__law_sub
  walk_at "sem"
  simp only [ix0, ix1, R.bind_ok]
  rw [mulD_of s hx.1 (den_lt hy) hM hN (by omega)]
  simp only [R.bind_ok]
  rw [mulD_of s hy.1 (den_lt hx) hN hM (by omega)]
  walk_at "sem"
  rw [mulD_of s (den_lt hx) (den_lt hy) hM hN (by omega)]
  walk_at "sem"
  rw [lfr_ok (N := M + N) s (natAbs_mul_lt (den_lt hx) (den_lt hy)) (den_mul_ne x y) (by omega) h, sub_divInt]
  walk_at "sem"
theorem ldiv_ok {x y : Rat} {M N : Nat} (s : Sto) (hx : Sm M x) (hy : Sm N y) (h0 : y ≠ 0) (hM : 0 < M) (hN : 0 < N) (h : M + N ≤ 9000) : r__law_div [fr x, fr y] s = .ok (fr (x / y)) s := by
  unfold r__law_div
  walk_at "sem"
  simp only [ix0, ix1, R.bind_ok]
  rw [mulD_of s hx.1 (den_lt hy) hM hN (by omega)]
  simp only [R.bind_ok]
  rw [mulD_of s (den_lt hx) hy.1 hM hN (by omega)]
  walk_at "sem"
  rw [lfr_ok (N := M + N) s (natAbs_mul_lt (den_lt hx) hy.1) (Int.mul_ne_zero (den_ne x) (num_ne h0)) (by omega) h, div_divInt]
  walk_at "sem"
theorem lmul_ok {x y : Rat} {M N : Nat} (s : Sto) (hx : Sm M x) (hy : Sm N y) (hM : 0 < M) (hN : 0 < N) (h : M + N ≤ 9000) : r__law_mul [fr x, fr y] s = .ok (fr (x * y)) s := by
  unfold r__law_mul
  walk_at "sem"
  simp only [ix0, ix1, R.bind_ok]
  rw [mulD_of s hx.1 hy.1 hM hN (by omega)]
  simp only [R.bind_ok]
  rw [mulD_of s (den_lt hx) (den_lt hy) hM hN (by omega)]
  walk_at "sem"
  rw [lfr_ok (N := M + N) s (natAbs_mul_lt (den_lt hx) (den_lt hy)) (den_mul_ne x y) (by omega) h, mul_divInt]
  walk_at "sem"
theorem less_ok {x y : Rat} {M N : Nat} (s : Sto) (hx : Sm M x) (hy : Sm N y) (hM : 0 < M) (hN : 0 < N) (h : M + N ≤ 9000) : r_less [fr x, fr y] s = .ok (.bl (decide (x < y))) s := by
  unfold r_less
  walk_at "sem"
  simp only [ix0, ix1, R.bind_ok]
  rw [mulD_of s hx.1 (den_lt hy) hM hN (by omega)]
  simp only [R.bind_ok]
  rw [mulD_of s hy.1 (den_lt hx) hN hM (by omega)]
  walk_at "sem"
  have e : decide (x.num * (y.den : Int) < y.num * (x.den : Int)) = decide (x < y) := by
    rw [decide_eq_decide, Rat.lt_iff]
  rw [e]
/-! ### ladders, plainly -/
abbrev Part := Bool × Rat
/-- what is seen ahead of a part; none: without end -/
def stp (p : Part) (x : Option Rat) : Option Rat := match p.1, x with
  | true, none => none
  | true, some x => some (x + p.2)
  | false, none => some p.2
  | false, some x => some (x * p.2 / (x + p.2))
def one (L : List Part) (x : Option Rat) : Option Rat := L.foldr stp x
def aft (L : List Part) : Nat → Option Rat → Option Rat
  | 0, x => x
  | n + 1, x => aft L n (one L x)
theorem aft_succ (L : List Part) : ∀ (n : Nat) (x : Option Rat), aft L (n + 1) x = one L (aft L n x)
  | 0, _ => rfl
  | n + 1, x => by rw [aft, aft_succ L n (one L x)]; rfl
def olt : Option Rat → Option Rat → Prop
  | some a, some b => a < b
  | some _, none => True
  | none, _ => False
def nn : Option Rat → Prop
  | some a => 0 ≤ a
  | none => True
def okL (L : List Part) : Prop := ∀ p ∈ L, 0 < p.2 ∧ Sm 3 p.2
theorem par_lt {x r : Rat} (hx : 0 ≤ x) (hr : 0 < r) : x * r / (x + r) < r ∧ 0 ≤ x * r / (x + r) := by
  have h1 : 0 < x + r := by grind
  constructor
  · rw [Rat.div_lt_iff h1]
    have := Rat.mul_pos hr hr
    grind
  · rw [Rat.div_def]
    exact Rat.mul_nonneg (Rat.mul_nonneg hx (Rat.le_of_lt hr)) (Rat.le_of_lt (Rat.inv_pos.mpr h1))
theorem par_mono {x y r : Rat} (hx : 0 ≤ x) (hr : 0 < r) (h : x < y) : x * r / (x + r) < y * r / (y + r) := by
  have h1 : 0 < x + r := by grind
  have h2 : 0 < y + r := by grind
  rw [Rat.div_lt_iff h1]
  have e : y * r / (y + r) * (x + r) = y * r * (x + r) / (y + r) := by
    rw [Rat.div_def, Rat.div_def, Rat.mul_assoc, Rat.mul_comm _ (x + r), ← Rat.mul_assoc]
  rw [e, Rat.lt_div_iff h2]
  have := Rat.mul_pos hr hr
  have h3 : x * (r * r) < y * (r * r) := Rat.mul_lt_mul_of_pos_right h this
  grind
theorem stp_nn {p : Part} (hp : 0 < p.2) {x : Option Rat} (h : nn x) : nn (stp p x) := by
  obtain ⟨b, r⟩ := p
  cases b <;> cases x <;> simp only [stp, nn] at *
  · exact Rat.le_of_lt hp
  · exact (par_lt h hp).2
  · grind
theorem stp_mono {p : Part} (hp : 0 < p.2) {x y : Option Rat} (hx : nn x) (hy : nn y) (h : olt x y) : olt (stp p x) (stp p y) := by
  obtain ⟨b, r⟩ := p
  cases b <;> cases x <;> cases y <;> simp only [stp, nn, olt] at *
  · exact (par_lt hx hp).1
  · exact par_mono hx hp h
  · grind
theorem one_nn {L : List Part} (hL : okL L) {x : Option Rat} (h : nn x) : nn (one L x) := by
  induction L with
  | nil => exact h
  | cons p L ih => exact stp_nn (hL p (List.mem_cons_self ..)).1 (ih fun q hq => hL q (List.mem_cons_of_mem _ hq))
theorem one_mono {L : List Part} (hL : okL L) {x y : Option Rat} (hx : nn x) (hy : nn y) (h : olt x y) : olt (one L x) (one L y) := by
  induction L with
  | nil => exact h
  | cons p L ih =>
    have hL' : okL L := fun q hq => hL q (List.mem_cons_of_mem _ hq)
    exact stp_mono (hL p (List.mem_cons_self ..)).1 (one_nn hL' hx) (one_nn hL' hy) (ih hL')
theorem aft_nn {L : List Part} (hL : okL L) : ∀ (n : Nat) {x : Option Rat}, nn x → nn (aft L n x)
  | 0, _, h => h
  | n + 1, _, h => aft_nn hL n (one_nn hL h)
theorem aft_mono {L : List Part} (hL : okL L) : ∀ (n : Nat) {x y : Option Rat}, nn x → nn y → olt x y → olt (aft L n x) (aft L n y)
  | 0, _, _, _, _, h => h
  | n + 1, _, _, hx, hy, h => aft_mono hL n (one_nn hL hx) (one_nn hL hy) (one_mono hL hx hy h)
theorem one_some {L : List Part} (h : ∃ p ∈ L, p.1 = false) (x : Option Rat) : ∃ a, one L x = some a := by
  induction L with
  | nil => obtain ⟨p, hp, _⟩ := h; cases hp
  | cons p L ih =>
    obtain ⟨b, r⟩ := p
    cases b with
    | false => cases e : one L x <;> exact ⟨_, by show stp _ (one L x) = _; rw [e]; rfl⟩
    | true =>
      obtain ⟨q, hq, hb⟩ := h
      rcases List.mem_cons.mp hq with rfl | hq
      · cases hb
      · obtain ⟨a, ha⟩ := ih ⟨q, hq, hb⟩
        exact ⟨_, by show stp _ (one L x) = _; rw [ha]; rfl⟩
/-- with the end open the numbers fall -/
theorem falls {L : List Part} (hL : okL L) (hb : ∃ p ∈ L, p.1 = false) (n : Nat) : olt (aft L (n + 1) none) (aft L n none) := by
  obtain ⟨a, ha⟩ := one_some hb none
  have h : olt (one L none) none := by rw [ha]; trivial
  exact aft_mono hL n (one_nn hL (x := none) trivial) trivial h
/-- with the end short they stay apart from these -/
theorem apart {L : List Part} (hL : okL L) (n : Nat) : olt (aft L n (some 0)) (aft L n none) := aft_mono hL n (by show (0 : Rat) ≤ 0; exact Rat.le_refl) trivial trivial
/-- with the end short they rise -/
theorem rises {L : List Part} (hL : okL L) (n : Nat) {a b : Rat} (h1 : aft L n (some 0) = some a) (h2 : aft L (n + 1) (some 0) = some b) : a ≤ b := by
  by_cases h : one L (some 0) = some 0
  · rw [aft, h, h1] at h2
    cases h2; exact Rat.le_refl
  · have h0 : nn (some 0) := by show (0 : Rat) ≤ 0; exact Rat.le_refl
    have : olt (some 0) (one L (some 0)) := by
      have hn := one_nn hL h0
      cases e : one L (some 0) with
      | none => trivial
      | some c =>
        rw [e] at hn h
        have hn : 0 ≤ c := hn
        show 0 < c
        have : c ≠ 0 := fun z => h (by rw [z])
        grind
    have := aft_mono hL n h0 (one_nn hL h0) this
    rw [h1, show aft L n (one L (some 0)) = some b from h2] at this
    exact Rat.le_of_lt this
theorem aft_some {L : List Part} : ∀ (n : Nat) (a : Rat), ∃ b, aft L n (some a) = some b
  | 0, a => ⟨a, rfl⟩
  | n + 1, a => by
    have : ∃ b, one L (some a) = some b := by
      induction L with
      | nil => exact ⟨a, rfl⟩
      | cons p L ih =>
        obtain ⟨b, hb⟩ := ih
        obtain ⟨c, r⟩ := p
        cases c <;> exact ⟨_, by show stp _ (one L (some a)) = _; rw [hb]; rfl⟩
    obtain ⟨b, hb⟩ := this
    rw [aft, hb]
    exact aft_some n b
/-- duals -/
def dual (p : Part) : Part := (!p.1, 1 / p.2)
def inv : Option Rat → Option Rat
  | none => some 0
  | some x => if x = 0 then none else some (1 / x)
theorem stp_dual {p : Part} (hp : 0 < p.2) {x : Option Rat} (hx : nn x) : stp (dual p) (inv x) = inv (stp p x) := by
  obtain ⟨b, r⟩ := p
  have hr : r ≠ 0 := by grind
  cases b <;> cases x <;> simp only [stp, dual, inv, nn, Bool.not_true, Bool.not_false] at *
  · simp only [hr, if_false]
    congr 1
    grind
  · rename_i x
    by_cases h0 : x = 0
    · subst h0
      simp [Rat.div_def, Rat.zero_mul]
    · have h1 : x * r / (x + r) ≠ 0 := by
        have : 0 < x := by grind
        have h2 : 0 < x * r := Rat.mul_pos this hp
        have h3 : 0 < x + r := by grind
        have : 0 < x * r / (x + r) := by rw [Rat.div_def]; exact Rat.mul_pos h2 (Rat.inv_pos.mpr h3)
        grind
      have h3 : x + r ≠ 0 := by grind
      simp only [h0, h1, if_false]
      congr 1
      grind
  · simp [Rat.div_def, Rat.zero_mul]
  · rename_i x
    have h3 : x + r ≠ 0 := by grind
    by_cases h0 : x = 0
    · subst h0
      simp [hr, Rat.zero_add]
    · simp only [h0, h3, if_false]
      congr 1
      have : 1 / x + 1 / r ≠ 0 := by
        have : 0 < x := by grind
        have h4 : 0 < 1 / x := by rw [Rat.div_def]; exact Rat.mul_pos (by decide) (Rat.inv_pos.mpr this)
        have h5 : 0 < 1 / r := by rw [Rat.div_def]; exact Rat.mul_pos (by decide) (Rat.inv_pos.mpr hp)
        grind
      grind
theorem one_dual {L : List Part} (hL : okL L) {x : Option Rat} (hx : nn x) : one (L.map dual) (inv x) = inv (one L x) := by
  induction L with
  | nil => rfl
  | cons p L ih =>
    have hL' : okL L := fun q hq => hL q (List.mem_cons_of_mem _ hq)
    show stp (dual p) (one (L.map dual) (inv x)) = inv (stp p (one L x))
    rw [ih hL', stp_dual (hL p (List.mem_cons_self ..)).1 (one_nn hL' hx)]
theorem aft_dual {L : List Part} (hL : okL L) : ∀ (n : Nat) {x : Option Rat}, nn x → aft (L.map dual) n (inv x) = inv (aft L n x)
  | 0, _, _ => rfl
  | n + 1, x, h => by rw [aft, one_dual hL h, aft_dual hL n (one_nn hL h)]; rfl
def smo (N : Nat) : Option Rat → Prop
  | some a => Sm N a
  | none => True
theorem par_eq {x r : Rat} (hx : 0 ≤ x) (hr : 0 < r) : x * r / (x + r) = Rat.divInt (x.num * r.num) (x.num * r.den + r.num * x.den) := by
  have hd : (x.den : Int) * (r.den : Int) ≠ 0 := den_mul_ne x r
  rw [mul_divInt, add_divInt, Rat.div_def, Rat.inv_divInt, Rat.divInt_mul_divInt, Int.mul_comm ((x.den : Int) * r.den) _, Rat.divInt_mul_right hd]
theorem par_sm {x r : Rat} {N : Nat} (hx : 0 ≤ x) (hr : 0 < r) (sx : Sm N x) (sr : Sm 3 r) : Sm (N + 4) (x * r / (x + r)) := by
  rw [par_eq hx hr]
  have h1 : 0 < r.num := num_pos.mpr hr
  have h2 : 0 ≤ x.num := by
    by_cases h : x = 0
    · subst h; decide
    · exact Int.le_of_lt (num_pos.mpr (by grind))
  have h3 : (0 : Int) < x.den := by have := x.den_pos; omega
  have h4 : (0 : Int) < r.den := by have := r.den_pos; omega
  have h5 : 0 < r.num * (x.den : Int) := Int.mul_pos h1 h3
  have h6 : 0 ≤ x.num * (r.den : Int) := Int.mul_nonneg h2 (Int.le_of_lt h4)
  refine divInt_sm ?_ ?_ (by omega)
  · exact Nat.lt_of_lt_of_le (natAbs_mul_lt sx.1 sr.1) (Nat.pow_le_pow_right (by decide) (by omega))
  · exact natAbs_add_lt (natAbs_mul_lt sx.1 (den_lt sr)) (by rw [Nat.add_comm]; exact natAbs_mul_lt sr.1 (den_lt sx))
theorem stp_sm {p : Part} {N : Nat} (hp : 0 < p.2) (sp : Sm 3 p.2) {x : Option Rat} (hx : nn x) (sx : smo N x) : smo (N + 4) (stp p x) := by
  obtain ⟨b, r⟩ := p
  cases b <;> cases x <;> simp only [stp, nn, smo] at *
  · exact sp.mono (by omega)
  · exact par_sm hx hp sx sp
  · exact plus_sm sx sp
theorem one_sm {L : List Part} (hL : okL L) {N : Nat} {x : Option Rat} (hx : nn x) (sx : smo N x) : smo (N + 4 * L.length) (one L x) := by
  induction L with
  | nil => exact sx
  | cons p L ih =>
    have hL' : okL L := fun q hq => hL q (List.mem_cons_of_mem _ hq)
    have := stp_sm (hL p (List.mem_cons_self ..)).1 (hL p (List.mem_cons_self ..)).2 (one_nn hL' hx) (ih hL')
    rw [List.length_cons]
    exact this
theorem aft_sm {L : List Part} (hL : okL L) : ∀ (n : Nat) {N : Nat} {x : Option Rat}, nn x → smo N x → smo (N + 4 * L.length * n) (aft L n x)
  | 0, _, _, _, h => h
  | n + 1, N, x, hx, h => by
    have := aft_sm hL n (one_nn hL hx) (one_sm hL hx h)
    rw [aft]
    have e : N + 4 * L.length + 4 * L.length * n = N + 4 * L.length * (n + 1) := by rw [Nat.mul_succ]; omega
    rw [e] at this
    exact this
/-- as the program has them -/
def wordD (b : Bool) : D := .str (if b then "row" else "beside")
def partD (p : Part) : D := .tup [wordD p.1, fr p.2]
def ladD (L : List Part) : D := .tup (L.map partD)
def opD : Option Rat → D
  | none => .non
  | some x => fr x
theorem plN_word (b : Bool) : plN 1 (wordD b) = true := by cases b <;> decide +kernel
theorem plN_str {x : Str} (h : (decide (x.length ≤ 100000) && PyData.strOk x) = true) : plN 1 (.str x) = true := h
theorem word_row (b : Bool) (s : Sto) : eqD (wordD b) (.str "row") s = .ok (.bl b) s := by
  show eqD (wordD b) (wordD true) s = _
  cases b
  · exact eqD_no 1 (by intro h; simp only [wordD, D.str.injEq] at h; revert h; decide +kernel) (plN_word _) (plN_word _) (by decide)
  · exact eqD_yes 1 rfl (plN_word _) (by decide)
theorem opD_isN (x : Option Rat) (s : Sto) : isND (opD x) .non s = .ok (.bl x.isNone) s := by cases x <;> rfl
theorem plN_op (x : Option Rat) : plN 2 (opD x) = true := by cases x <;> rfl
theorem opD_inj {x y : Option Rat} : opD x = opD y ↔ x = y := by
  cases x <;> cases y <;> simp [opD, fr_inj] <;> simp [fr]
theorem ahead_ok {p : Part} {N : Nat} (hp : 0 < p.2) (sp : Sm 3 p.2) {x : Option Rat} (hx : nn x) (sx : smo N x) (hN : 0 < N) (h9 : N ≤ 4000) (s : Sto) : r_ahead [partD p, opD x] s = .ok (opD (stp p x)) s := by
  obtain ⟨b, r⟩ := p
  unfold r_ahead partD
  simp only at hp sp
  cases b with
  | true =>
    have w := word_row true
    cases x with
    | none =>
      have hi : isND (opD none) .non s = .ok (.bl true) s := rfl
      generalize wordD true = wd at *
      repeat (first | walk_at "sem1" | simp only [w, hi])
      rfl
    | some x =>
      have hi : isND (opD (some x)) .non s = .ok (.bl false) s := rfl
      have hp1 : r_plus [opD (some x), fr r] s = .ok (fr (x + r)) s := plus_ok s sx sp hN (by decide) (by omega)
      generalize wordD true = wd at *
      generalize opD (some x) = xd at *
      repeat (first | walk_at "sem1" | simp only [w, hi, hp1])
      rfl
  | false =>
    have w := word_row false
    cases x with
    | none =>
      have hi : isND (opD none) .non s = .ok (.bl true) s := rfl
      generalize wordD false = wd at *
      generalize opD none = xd at *
      repeat (first | walk_at "sem1" | simp only [w, hi])
      rfl
    | some x =>
      have hx : 0 ≤ x := hx
      have hi : isND (opD (some x)) .non s = .ok (.bl false) s := rfl
      have hp1 : r_plus [opD (some x), fr r] s = .ok (fr (x + r)) s := plus_ok s sx sp hN (by decide) (by omega)
      have hp2 : r_times [opD (some x), fr r] s = .ok (fr (x * r)) s := times_ok s sx sp hN (by decide) (by omega)
      have hp3 := over_ok s (times_sm sx sp) (plus_sm sx sp) (by grind) (by omega) (by omega) (by omega)
      generalize wordD false = wd at *
      generalize opD (some x) = xd at *
      repeat (first | walk_at "sem1" | simp only [w, hi, hp1, hp2, hp3])
      rfl
/-! ### what the program does with a ladder -/
theorem aoa_loop {s : Sto} (a : Option D) : ∀ (M : List Part) {N : Nat} {x : Option Rat} (c : Option D), okL M → nn x → smo N x → 0 < N → N + 4 * M.length ≤ 4000 →
    ∃ c', forL (mgName 2) b_ahead_of_all_1 (M.map partD) [a, some (opD x), c] s = .nx [a, some (opD (M.foldl (fun x p => stp p x) x)), c'] s
  | [], N, x, c, _, _, _, _, _ => ⟨c, rfl⟩
  | p :: M, N, x, c, hM, hx, sx, hN, h9 => by
    have hp := hM p (List.mem_cons_self ..)
    rw [List.length_cons] at h9
    have e1 := ahead_ok hp.1 hp.2 hx sx hN (by omega) s
    obtain ⟨c', h⟩ := aoa_loop (s := s) a M (some (partD p)) (fun q hq => hM q (List.mem_cons_of_mem _ hq)) (stp_nn hp.1 hx) (stp_sm hp.1 hp.2 hx sx) (by omega) (by omega)
    refine ⟨c', ?_⟩
    have e2 : b_ahead_of_all_1 [a, some (opD x), some (partD p)] s = .nx [a, some (opD (stp p x)), some (partD p)] s := by
      unfold b_ahead_of_all_1
      generalize opD x = xd at *
      generalize partD p = pd at *
      repeat (first | walk_at "sem1" | simp only [e1])
    simp only [List.map_cons, forL, mgName, List.set_cons_zero, List.set_cons_succ, e2]
    exact h
theorem revD_tup (xs : List D) (s : Sto) : revD (.tup xs) s = .ok (.tup xs.reverse) s := rfl
theorem aoa_ok {L : List Part} {N : Nat} {x : Option Rat} (hL : okL L) (hx : nn x) (sx : smo N x) (hN : 0 < N) (h9 : N + 4 * L.length ≤ 4000) (s : Sto) : r_ahead_of_all [ladD L, opD x] s = .ok (opD (one L x)) s := by
  have hrev : revD (ladD L) s = .ok (.tup (L.reverse.map partD)) s := by
    show R.ok (D.tup (L.map partD).reverse) s = _
    rw [List.map_reverse]
  obtain ⟨c', h⟩ := aoa_loop (s := s) (some (ladD L)) L.reverse none (fun q hq => hL q (List.mem_reverse.mp hq)) hx sx hN (by rw [List.length_reverse]; exact h9)
  rw [List.foldl_reverse] at h
  have hl : l_ahead_of_all_1 [some (ladD L), some (opD x), none] s = .nx [some (ladD L), some (opD (one L x)), c'] s := by
    unfold l_ahead_of_all_1
    rw [for_ok (ds := L.reverse.map partD) (s1 := s) (by
      generalize ladD L = ld at *
      repeat (first | walk_at "sem1" | simp only [mIter, hrev, stands]))]
    exact h
  unfold r_ahead_of_all
  simp only [t_ahead_of_all_3]
  generalize opD (one L x) = r at *
  generalize opD x = xd at *
  generalize ladD L = ld at *
  repeat (first | walk_at "sem1" | simp only [hl])
/-! ### roots, plainly -/
structure Rt where
  a : Int
  b : Int
  c : Int
def fx (r : Rt) (x : Rat) : Rat := r.a * x * x + r.b * x + r.c
structure OkR (r : Rt) : Prop where
  a0 : 1 ≤ r.a
  a1 : r.a ≤ 60
  b0 : -30 ≤ r.b
  b1 : r.b ≤ 30
  c0 : -60 ≤ r.c
  c1 : r.c ≤ -1
theorem rat_mul_nonneg {x y : Rat} (hx : 0 ≤ x) (hy : 0 ≤ y) : 0 ≤ x * y := Rat.mul_nonneg hx hy
theorem cast_le {a b : Int} (h : a ≤ b) : (a : Rat) ≤ (b : Rat) := Rat.intCast_le_intCast.mpr h
theorem cast_lt {a b : Int} (h : a < b) : (a : Rat) < (b : Rat) := Rat.intCast_lt_intCast.mpr h
theorem fx_mono {r : Rt} (ha : 1 ≤ r.a) (hc : r.c ≤ -1) {x y : Rat} (hy : 0 ≤ y) (hxy : y < x) (hf : fx r x ≤ 0) : fx r y < 0 := by
  have h1 : (1 : Rat) ≤ r.a := cast_le ha
  have h2 : (r.c : Rat) ≤ -1 := cast_le hc
  have hx : 0 < x := by grind
  have key : x * fx r y = y * fx r x + (x - y) * (r.c - r.a * (x * y)) := by unfold fx; grind
  have h3 : 0 ≤ x * y := rat_mul_nonneg (by grind) hy
  have h4 : 0 ≤ (r.a : Rat) * (x * y) := rat_mul_nonneg (by grind) h3
  have h5 : y * fx r x ≤ 0 := by
    have := rat_mul_nonneg hy (show 0 ≤ -fx r x by grind)
    grind
  have h6 : 0 < (x - y) * -(r.c - r.a * (x * y)) := Rat.mul_pos (by grind) (by grind)
  have h7 : x * fx r y < 0 := by grind
  rcases (show fx r y < 0 ∨ 0 ≤ fx r y by grind) with h | h
  · exact h
  · have := rat_mul_nonneg (show 0 ≤ x by grind) h
    grind
/-- t is the floor of the root times S -/
structure Flo (r : Rt) (S : Rat) (t : Int) : Prop where
  nn : 0 ≤ t
  lo : fx r (t / S) ≤ 0
  hi : 0 < fx r ((t + 1) / S)
theorem div_le {a b S : Rat} (hS : 0 < S) (h : a ≤ b) : a / S ≤ b / S := by
  have h2 : 0 < S⁻¹ := Rat.inv_pos.mpr hS
  have := rat_mul_nonneg (show 0 ≤ b - a by grind) (Rat.le_of_lt h2)
  rw [Rat.div_def, Rat.div_def]
  grind
theorem div_lt {a b S : Rat} (hS : 0 < S) (h : a < b) : a / S < b / S := by
  have h2 : 0 < S⁻¹ := Rat.inv_pos.mpr hS
  have := Rat.mul_pos (show 0 < b - a by grind) h2
  rw [Rat.div_def, Rat.div_def]
  grind
theorem div_nn {a S : Rat} (hS : 0 < S) (h : 0 ≤ a) : 0 ≤ a / S := by
  rw [Rat.div_def]
  exact rat_mul_nonneg h (Rat.le_of_lt (Rat.inv_pos.mpr hS))
theorem Flo.le {r r' : Rt} {S : Rat} (hS : 0 < S) (ha : 1 ≤ r'.a) (hc : r'.c ≤ -1) {t t' : Int} (h : Flo r S t) (h' : Flo r' S t') (hle : fx r' (t / S) ≤ 0) : t ≤ t' := by
  rcases Int.lt_or_le t' t with hlt | hlt
  · exfalso
    have h1 : (t' : Rat) + 1 ≤ t := by
      have := cast_le (show t' + 1 ≤ t by omega)
      rw [Rat.intCast_add] at this
      exact this
    have h2 := div_le hS h1
    have h3 := h'.hi
    have h4 : 0 ≤ ((t' : Rat) + 1) / S := div_nn hS (by have := cast_le h'.nn; grind)
    by_cases e : ((t' : Rat) + 1) / S = (t : Rat) / S
    · rw [e] at h3; grind
    · have := fx_mono ha hc h4 (show ((t' : Rat) + 1) / S < (t : Rat) / S by grind) hle
      grind
  · exact hlt
theorem Flo.uniq {r : Rt} {S : Rat} (hS : 0 < S) (ha : 1 ≤ r.a) (hc : r.c ≤ -1) {t t' : Int} (h : Flo r S t) (h' : Flo r S t') : t = t' := by
  have h1 := Flo.le hS ha hc h h' h.lo
  have h2 := Flo.le hS ha hc h' h h'.lo
  omega
theorem fx_sub (r : Rt) (x y : Rat) : fx r x - fx r y = (x - y) * (r.a * (x + y) + r.b) := by unfold fx; grind
/-- roots are below 100 -/
theorem fx_big {r : Rt} (h : OkR r) {x : Rat} (hx : 99 ≤ x) : 0 < fx r x := by
  have h1 : (1 : Rat) ≤ r.a := cast_le h.a0
  have h2 : (-30 : Rat) ≤ r.b := cast_le h.b0
  have h3 : (-60 : Rat) ≤ r.c := cast_le h.c0
  have h4 := rat_mul_nonneg (show 0 ≤ (r.a : Rat) - 1 by grind) (rat_mul_nonneg (show 0 ≤ x by grind) (show 0 ≤ x by grind))
  have h5 := rat_mul_nonneg (show 0 ≤ (r.b : Rat) + 30 by grind) (show 0 ≤ x by grind)
  have h6 := rat_mul_nonneg (show 0 ≤ x - 99 by grind) (show 0 ≤ x by grind)
  unfold fx
  grind
theorem Flo.small {r : Rt} (h : OkR r) {S : Rat} (hS : 0 < S) {t : Int} (f : Flo r S t) : (t : Rat) / S < 99 ∧ 0 ≤ (t : Rat) / S := by
  refine ⟨?_, div_nn hS (by have := cast_le f.nn; grind)⟩
  rcases (show (t : Rat) / S < 99 ∨ 99 ≤ (t : Rat) / S by grind) with h1 | h1
  · exact h1
  · have := fx_big h h1
    have := f.lo
    grind
/-- near the floor the value is small -/
theorem near {r : Rt} (h : OkR r) {x d : Rat} (hx0 : -1 ≤ x) (hx : x ≤ 200) {y : Rat} (hy0 : -1 ≤ y) (hy : y ≤ 200) (h1 : y - x ≤ d) (h2 : x - y ≤ d) : fx r x - fx r y ≤ 30000 * d ∧ fx r y - fx r x ≤ 30000 * d := by
  have a1 : (1 : Rat) ≤ r.a := cast_le h.a0
  have a2 : (r.a : Rat) ≤ 60 := cast_le h.a1
  have b1 : (-30 : Rat) ≤ r.b := cast_le h.b0
  have b2 : (r.b : Rat) ≤ 30 := cast_le h.b1
  have e := fx_sub r x y
  have u1 := rat_mul_nonneg (show 0 ≤ (60 : Rat) - r.a by grind) (show 0 ≤ x + y + 2 by grind)
  have u2 := rat_mul_nonneg (show 0 ≤ (r.a : Rat) by grind) (show 0 ≤ x + y + 2 by grind)
  have k1 : r.a * (x + y) + r.b ≤ 30000 := by grind
  have k2 : -30000 ≤ r.a * (x + y) + r.b := by grind
  have w1 := rat_mul_nonneg (show 0 ≤ d - (x - y) by grind) (show 0 ≤ 30000 - (r.a * (x + y) + r.b) by grind)
  have w2 := rat_mul_nonneg (show 0 ≤ d + (x - y) by grind) (show 0 ≤ 30000 - (r.a * (x + y) + r.b) by grind)
  have w3 := rat_mul_nonneg (show 0 ≤ d - (x - y) by grind) (show 0 ≤ 30000 + (r.a * (x + y) + r.b) by grind)
  have w4 := rat_mul_nonneg (show 0 ≤ d + (x - y) by grind) (show 0 ≤ 30000 + (r.a * (x + y) + r.b) by grind)
  rw [e, show fx r y - fx r x = -(fx r x - fx r y) by grind, e]
  grind
theorem step_eq {S : Rat} (hS : 0 < S) (t : Rat) : (t + 1) / S = t / S + 1 / S := by
  rw [Rat.div_def, Rat.div_def, Rat.div_def]; grind
theorem Flo.fine {r : Rt} (h : OkR r) {S : Rat} (hS : 1 ≤ S) {t : Int} (f : Flo r S t) : -(30000 * (1 / S)) ≤ fx r (t / S) ∧ fx r (t / S) ≤ 0 := by
  have hS0 : 0 < S := by grind
  obtain ⟨s1, s2⟩ := f.small h hS0
  have e := step_eq hS0 t
  have i0 : 0 ≤ 1 / S := div_nn hS0 (by decide)
  have i1 : 1 / S ≤ 1 := by
    have := div_le hS0 hS
    rwa [show S / S = 1 by grind] at this
  have hi := f.hi
  rw [e] at hi
  have := (near h (x := t / S + 1 / S) (d := 1 / S) (by grind) (by grind) (y := t / S) (by grind) (by grind) (by grind) (by grind)).1
  have := f.lo
  grind
def sg (x : Rat) : Int := if x < 0 then -1 else if 0 < x then 1 else 0
/-- -1, 0, 1 as the root is less than x, equal, greater -/
def cmpR (r : Rt) (x : Rat) : Int := if x ≤ 0 then 1 else -sg (fx r x)
/-! ### sizes -/
def Bd (n : Nat) (i : Int) : Prop := i.natAbs < 2 ^ n
instance (n : Nat) (i : Int) : Decidable (Bd n i) := inferInstanceAs (Decidable (_ < _))
theorem Bd.mono {m n : Nat} {i : Int} (h : Bd m i) (hm : m ≤ n) : Bd n i := Nat.lt_of_lt_of_le h (Nat.pow_le_pow_right (by decide) hm)
theorem Bd.mul {m n : Nat} {i j : Int} (h : Bd m i) (g : Bd n j) : Bd (m + n) (i * j) := natAbs_mul_lt h g
theorem Bd.add {n : Nat} {i j : Int} (h : Bd n i) (g : Bd n j) : Bd (n + 1) (i + j) := natAbs_add_lt h g
theorem Bd.sub {n : Nat} {i j : Int} (h : Bd n i) (g : Bd n j) : Bd (n + 1) (i - j) := natAbs_sub_lt h g
theorem Bd.neg {n : Nat} {i : Int} (h : Bd n i) : Bd n (-i) := by unfold Bd; rw [Int.natAbs_neg]; exact h
theorem mulB {m n : Nat} {i j : Int} (s : Sto) (h : Bd m i) (g : Bd n j) (hm : 0 < m) (hn : 0 < n) (hs : m + n ≤ 1000000) : mulD (.int i) (.int j) s = .ok (.int (i * j)) s := by
  simp only [mulD, mulOk_of h g hm hn hs, if_true]
theorem fdivB {n : Nat} {i j : Int} (s : Sto) (h : Bd n j) (h0 : j ≠ 0) (hn : 0 < n) (hs : n ≤ 9000) : fdivD (.int i) (.int j) s = .ok (.int (i.fdiv j)) s := by
  simp only [fdivD, divOk_of h0 h hn hs, if_true]
/-! ### roots -/
def rootD (r : Rt) : D := .tup [.str "root", .int r.a, .int r.b, .int r.c]
def FS (r : Rt) (S t : Int) : Int := r.a * t * t + r.b * t * S + r.c * S * S
theorem FS_fx (r : Rt) {S : Int} (hS : 0 < S) (t : Int) : ((FS r S t : Int) : Rat) = (S : Rat) * S * fx r ((t : Rat) / S) := by
  have h : (0 : Rat) < (S : Rat) := Rat.intCast_pos.mpr hS
  unfold FS fx
  simp only [Rat.intCast_add, Rat.intCast_mul]
  grind
theorem flo_of {r : Rt} {S t : Int} (hS : 0 < S) (h0 : 0 ≤ t) (h1 : FS r S t ≤ 0) (h2 : 0 < FS r S (t + 1)) : Flo r S t := by
  have h : (0 : Rat) < (S : Rat) := Rat.intCast_pos.mpr hS
  have hh : (0 : Rat) < (S : Rat) * S := Rat.mul_pos h h
  refine ⟨h0, ?_, ?_⟩
  · have e := FS_fx r hS t
    have e1 : ((FS r S t : Int) : Rat) ≤ 0 := cast_le h1
    rcases (show fx r ((t : Rat) / S) ≤ 0 ∨ 0 < fx r ((t : Rat) / S) by grind) with z | z
    · exact z
    · have := Rat.mul_pos hh z; grind
  · have e := FS_fx r hS (t + 1)
    have e1 : (0 : Rat) < ((FS r S (t + 1) : Int) : Rat) := cast_lt h2
    rw [e, Rat.intCast_add] at e1
    have e2 : (((1 : Int)) : Rat) = 1 := rfl
    rw [e2] at e1
    rcases (show 0 < fx r (((t : Rat) + 1) / S) ∨ fx r (((t : Rat) + 1) / S) ≤ 0 by grind) with z | z
    · exact z
    · have := rat_mul_nonneg (Rat.le_of_lt hh) (show 0 ≤ -fx r (((t : Rat) + 1) / S) by grind); grind
theorem FS_sign (r : Rt) {S : Int} (hS : 0 < S) (t : Int) : (FS r S t).sign = sg (fx r ((t : Rat) / S)) := by
  have h : (0 : Rat) < (S : Rat) := Rat.intCast_pos.mpr hS
  have hh : (0 : Rat) < (S : Rat) * S := Rat.mul_pos h h
  have e := FS_fx r hS t
  unfold sg
  split
  · rename_i z
    refine Int.sign_eq_neg_one_of_neg ?_
    have := Rat.mul_pos hh (show 0 < -fx r ((t : Rat) / S) by grind)
    have e1 : ((FS r S t : Int) : Rat) < ((0 : Int) : Rat) := by
      have : ((0 : Int) : Rat) = 0 := rfl
      grind
    exact Rat.intCast_lt_intCast.mp e1
  · split
    · rename_i z
      refine Int.sign_eq_one_of_pos ?_
      have := Rat.mul_pos hh z
      have e1 : ((0 : Int) : Rat) < ((FS r S t : Int) : Rat) := by
        have : ((0 : Int) : Rat) = 0 := rfl
        grind
      exact Rat.intCast_lt_intCast.mp e1
    · have z : fx r ((t : Rat) / S) = 0 := by grind
      rw [z] at e
      have e1 : ((FS r S t : Int) : Rat) = ((0 : Int) : Rat) := by
        have : ((0 : Int) : Rat) = 0 := rfl
        grind
      have := Rat.intCast_inj.mp e1
      rw [this]; rfl
/-- integers of a root that are not too great -/
structure SzR (r : Rt) : Prop where
  a : Bd 200 r.a
  b : Bd 200 r.b
  c : Bd 200 r.c
  a0 : 1 ≤ r.a
  c1 : r.c ≤ -1
theorem OkR.sz {r : Rt} (h : OkR r) : SzR r := by
  have h200 : (100 : Nat) < 2 ^ 200 := by decide
  have := h.a0; have := h.a1; have := h.b0; have := h.b1; have := h.c0; have := h.c1
  refine ⟨?_, ?_, ?_, h.a0, h.c1⟩ <;> unfold Bd <;> omega
theorem num_div_den (x : Rat) : (x.num : Rat) / ((x.den : Int) : Rat) = x := by
  rw [← Rat.divInt_eq_div]; exact Rat.num_divInt_den x
theorem den_pos' (x : Rat) : (0 : Int) < x.den := by have := x.den_pos; omega
theorem sub_sign (v : Int) : (if decide (v < 0) = true then (1 : Int) else 0) - (if decide (0 < v) = true then 1 else 0) = -v.sign := by
  rcases Int.lt_trichotomy v 0 with h | h | h
  · rw [decide_eq_true h, decide_eq_false (show ¬ 0 < v by omega), Int.sign_eq_neg_one_of_neg h]; rfl
  · rw [h]; rfl
  · rw [decide_eq_true h, decide_eq_false (show ¬ v < 0 by omega), Int.sign_eq_one_of_pos h]; rfl
theorem sign_sub (v : Int) : (if decide (0 < v) = true then (1 : Int) else 0) - (if decide (v < 0) = true then 1 else 0) = v.sign := by
  rcases Int.lt_trichotomy v 0 with h | h | h
  · rw [decide_eq_true h, decide_eq_false (show ¬ 0 < v by omega), Int.sign_eq_neg_one_of_neg h]; rfl
  · rw [h]; rfl
  · rw [decide_eq_true h, decide_eq_false (show ¬ v < 0 by omega), Int.sign_eq_one_of_pos h]; rfl
theorem sm_num {x : Rat} {N : Nat} (h : Sm N x) : Bd N x.num := h.1
theorem sm_den {x : Rat} {N : Nat} (h : Sm N x) : Bd N (x.den : Int) := den_lt h
theorem cmpR_eq (r : Rt) (x : Rat) : cmpR r x = if x.num ≤ 0 then 1 else -(FS r x.den x.num).sign := by
  unfold cmpR
  have hp : x ≤ 0 ↔ x.num ≤ 0 := by
    have := @num_pos x
    constructor
    · intro h
      have hn : ¬ 0 < x := by grind
      rw [← num_pos] at hn
      omega
    · intro h
      have : ¬ 0 < x := by rw [← num_pos]; omega
      grind
  by_cases h : x ≤ 0
  · rw [if_pos h, if_pos (hp.mp h)]
  · rw [if_neg h, if_neg (fun z => h (hp.mpr z)), FS_sign r (den_pos' x), num_div_den]
theorem cmpby_ok {r : Rt} (hr : SzR r) {x : Rat} {N : Nat} (hx : Sm N x) (hN : 0 < N) (h9 : N ≤ 100000) (s : Sto) : r_compare_by [rootD r, fr x] s = .ok (.int (cmpR r x)) s := by
  rw [cmpR_eq]
  have m1 := mulB s hr.a (sm_num hx) (by decide) hN (by omega)
  have m2 := mulB s (hr.a.mul (sm_num hx)) (sm_num hx) (by omega) hN (by omega)
  have m3 := mulB s hr.b (sm_num hx) (by decide) hN (by omega)
  have m4 := mulB s (hr.b.mul (sm_num hx)) (sm_den hx) (by omega) hN (by omega)
  have m5 := mulB s hr.c (sm_den hx) (by decide) hN (by omega)
  have m6 := mulB s (hr.c.mul (sm_den hx)) (sm_den hx) (by omega) hN (by omega)
  unfold r_compare_by rootD fr
  by_cases h : x.num ≤ 0
  · have c : decide (x.num ≤ 0) = true := decide_eq_true h
    rw [if_pos h]
    generalize x.num = p at *
    generalize (x.den : Int) = q at *
    repeat (first | walk_at "sem1" | simp only [mgTup, c])
  · have c : decide (x.num ≤ 0) = false := decide_eq_false h
    rw [if_neg h]
    unfold FS
    generalize x.num = p at *
    generalize (x.den : Int) = q at *
    repeat (first | walk_at "sem1" | simp only [mgTup, c, m1, m2, m3, m4, m5, m6])
    rw [sub_sign]
/-! ### the law's floor -/
theorem sq_lt_of {a b : Int} (ha : 0 ≤ a) (hb : 0 ≤ b) (h : a * a < b * b) : a < b := by
  rcases Int.lt_or_le a b with z | z
  · exact z
  · have := Int.mul_le_mul z z hb ha; omega
theorem sq_le_of {a b : Int} (ha : 0 ≤ a) (hb : 0 ≤ b) (h : a * a ≤ b * b) : a ≤ b := by
  rcases Int.lt_or_le b a with z | z
  · have h1 : b * b < a * a := Int.lt_of_le_of_lt (Int.mul_le_mul_of_nonneg_left (Int.le_of_lt z) hb) (Int.mul_lt_mul_of_pos_right z (by omega))
    omega
  · exact z
theorem two_pow_pos (k : Nat) : (0 : Int) < 2 ^ k := Int.pow_pos (by decide)
/-! ### what is looked at -/
/-- plain values with bools -/
def shp : Nat → D → Bool
  | 0, _ => false
  | _ + 1, .non => true
  | _ + 1, .bl _ => true
  | _ + 1, .int _ => true
  | _ + 1, .str x => decide (x.length ≤ 100000) && PyData.strOk x
  | k + 1, .tup xs => xs.all (shp k)
  | k + 1, .lst xs => xs.all (shp k)
  | _ + 1, _ => false
theorem shp_of_pl : ∀ {k : Nat} {d : D}, plN k d = true → shp k d = true
  | 0, _, h => by cases h
  | k + 1, d, h => by
    cases d with
    | non => rfl
    | int i => rfl
    | str x => exact h
    | tup xs =>
      simp only [plN, shp, List.all_eq_true] at h ⊢
      exact fun x hx => shp_of_pl (h x hx)
    | lst xs =>
      simp only [plN, shp, List.all_eq_true] at h ⊢
      exact fun x hx => shp_of_pl (h x hx)
    | _ => cases h
def tyS (d : D) : String := (tyD d).getD ""
theorem isi_of {d : D} {T a : String} (s : Sto) (h : tyD d = some a) : isiF T d s = .ok (.bl (a == T || (a == "bool" && T == "int"))) s := by
  simp only [isiF, h]
theorem shp_ty {k : Nat} {d : D} (h : shp k d = true) : ∃ a, tyD d = some a := by
  cases k with
  | zero => cases h
  | succ k => cases d <;> first | exact ⟨_, rfl⟩ | cases h
theorem isi_ntup {d : D} {a : String} (s : Sto) (h : ¬ ∃ xs, d = .tup xs) (h2 : tyD d = some a) : isiF "tuple" d s = .ok (.bl false) s := by
  rw [isi_of s h2]
  have : (a == "tuple") = false := by
    cases d <;> simp only [tyD, Option.some.injEq, reduceCtorEq] at h2 <;> subst h2 <;> first | exact absurd ⟨_, rfl⟩ h | decide
  rw [this]
  simp
def isAF : D → Bool
  | .tup [.int p, .int q] => decide (1 ≤ q) && decide (Int.gcd p q = 1)
  | _ => false
theorem anyfrac_ok {k : Nat} {d : D} (h : shp (k + 2) d = true) (s : Sto) : r_is_any_fraction [d] s = .ok (.bl (isAF d)) s := by
  have c0 : (!((0 : Int) == 2)) = true := by decide
  have c1 : (!((1 : Int) == 2)) = true := by decide
  have c2 : (!((2 : Int) == 2)) = false := by decide
  by_cases ht : ∃ xs, d = .tup xs
  · obtain ⟨xs, rfl⟩ := ht
    have it : ∀ xs, isiF "tuple" (.tup xs) s = .ok (.bl true) s := fun _ => rfl
    match xs, h with
    | [], _ =>
      have hl : lenF [.tup []] s = .ok (.int 0) s := rfl
      unfold r_is_any_fraction
      repeat (first | walk_at "sem1" | simp only [it, hl, c0])
      rfl
    | [a], _ =>
      have hl : lenF [.tup [a]] s = .ok (.int 1) s := rfl
      unfold r_is_any_fraction
      repeat (first | walk_at "sem1" | simp only [it, hl, c1])
      cases a <;> rfl
    | a :: b :: c :: r, _ =>
      have hl : lenF [.tup (a :: b :: c :: r)] s = .ok (.int ((r.length + 3 : Nat) : Int)) s := rfl
      have c3 : (!(((r.length + 3 : Nat) : Int) == 2)) = true := by
        simp only [Bool.not_eq_true', beq_eq_false_iff_ne, ne_eq]; omega
      unfold r_is_any_fraction
      generalize ((r.length + 3 : Nat) : Int) = nn at *
      repeat (first | walk_at "sem1" | simp only [it, hl, c3])
      cases a <;> cases b <;> rfl
    | [a, b], h =>
      have hl : lenF [.tup [a, b]] s = .ok (.int 2) s := rfl
      simp only [shp, List.all_cons, List.all_nil, Bool.and_true, Bool.and_eq_true] at h
      obtain ⟨ha, hb⟩ := h
      by_cases hai : ∃ p, a = .int p
      · obtain ⟨p, rfl⟩ := hai
        have i1 : isiF "int" (.int p) s = .ok (.bl true) s := rfl
        have i2 : isiF "bool" (.int p) s = .ok (.bl false) s := rfl
        by_cases hbi : ∃ q, b = .int q
        · obtain ⟨q, rfl⟩ := hbi
          have i3 : isiF "int" (.int q) s = .ok (.bl true) s := rfl
          have i4 : isiF "bool" (.int q) s = .ok (.bl false) s := rfl
          have hc := common_ok p q s
          by_cases hq : q < 1
          · have e1 : decide (q < 1) = true := decide_eq_true hq
            have e2 : isAF (.tup [.int p, .int q]) = false := by
              simp only [isAF, decide_eq_false (show ¬ 1 ≤ q by omega), Bool.false_and]
            rw [e2]
            unfold r_is_any_fraction
            repeat (first | walk_at "sem1" | simp only [it, hl, c2, i1, i2, i3, i4, e1, mgTup])
          · have e1 : decide (q < 1) = false := decide_eq_false hq
            have e2 : isAF (.tup [.int p, .int q]) = (((Int.gcd p q : Nat) : Int) == 1) := by
              simp only [isAF, decide_eq_true (show 1 ≤ q by omega), Bool.true_and]
              by_cases hg : Int.gcd p q = 1
              · simp [hg]
              · have : ¬ (((Int.gcd p q : Nat) : Int) = 1) := by omega
                simp [hg, this]
            rw [e2]
            unfold r_is_any_fraction
            repeat (first | walk_at "sem1" | simp only [it, hl, c2, i1, i2, i3, i4, e1, hc, mgTup])
        · have hbn : isAF (.tup [.int p, b]) = false := by
            cases b <;> first | rfl | exact absurd ⟨_, rfl⟩ hbi
          rw [hbn]
          obtain ⟨tb, ht⟩ := shp_ty hb
          have i3 := isi_of (T := "int") s ht
          have i4 := isi_of (T := "bool") s ht
          have i5 : (tb == "int" || (tb == "bool" && "int" == "int")) = false ∨ (tb == "int" || (tb == "bool" && "int" == "int")) = true ∧ (tb == "bool" || (tb == "bool" && "bool" == "int")) = true := by
            cases b <;> simp only [tyD, Option.some.injEq, reduceCtorEq] at ht <;> subst ht <;> first | exact absurd ⟨_, rfl⟩ hbi | decide
          rcases i5 with i5 | ⟨i5, i6⟩
          · rw [i5] at i3
            unfold r_is_any_fraction
            repeat (first | walk_at "sem1" | simp only [it, hl, c2, i1, i2, i3, mgTup])
          · rw [i5] at i3
            rw [i6] at i4
            unfold r_is_any_fraction
            repeat (first | walk_at "sem1" | simp only [it, hl, c2, i1, i2, i3, i4, mgTup])
      · have hbn : isAF (.tup [a, b]) = false := by
          cases a <;> first | rfl | exact absurd ⟨_, rfl⟩ hai
        rw [hbn]
        obtain ⟨tb, ht⟩ := shp_ty ha
        have i3 := isi_of (T := "int") s ht
        have i4 := isi_of (T := "bool") s ht
        have i5 : (tb == "int" || (tb == "bool" && "int" == "int")) = false ∨ (tb == "int" || (tb == "bool" && "int" == "int")) = true ∧ (tb == "bool" || (tb == "bool" && "bool" == "int")) = true := by
          cases a <;> simp only [tyD, Option.some.injEq, reduceCtorEq] at ht <;> subst ht <;> first | exact absurd ⟨_, rfl⟩ hai | decide
        rcases i5 with i5 | ⟨i5, i6⟩
        · rw [i5] at i3
          unfold r_is_any_fraction
          repeat (first | walk_at "sem1" | simp only [it, hl, c2, i3, mgTup])
        · rw [i5] at i3
          rw [i6] at i4
          unfold r_is_any_fraction
          repeat (first | walk_at "sem1" | simp only [it, hl, c2, i3, i4, mgTup])
  · obtain ⟨ta, ht2⟩ := shp_ty h
    have it := isi_ntup s ht ht2
    have e0 : isAF d = false := by
      cases d <;> first | rfl | exact absurd ⟨_, rfl⟩ ht
    rw [e0]
    unfold r_is_any_fraction
    repeat (first | walk_at "sem1" | simp only [it, Bool.false_eq_true])
def isFr : D → Bool
  | .tup [.int p, .int q] => isAF (.tup [.int p, .int q]) && decide (p.natAbs < 10 ^ 20) && decide (q < 10 ^ 20)
  | _ => false
theorem isfrac_ok {k : Nat} {d : D} (h : shp (k + 2) d = true) (s : Sto) : r_is_fraction [d] s = .ok (.bl (isFr d)) s := by
  have h1 := anyfrac_ok h s
  cases e : isAF d with
  | false =>
    rw [e] at h1
    have e2 : isFr d = false := by
      unfold isFr
      split
      · rw [e]; rfl
      · rfl
    rw [e2]
    unfold r_is_fraction
    repeat (first | walk_at "sem1" | simp only [h1])
  | true =>
    rw [e] at h1
    obtain ⟨p, q, rfl⟩ : ∃ p q, d = .tup [.int p, .int q] := by
      unfold isAF at e
      split at e
      · exact ⟨_, _, rfl⟩
      · cases e
    have i0 : ixD (.tup [.int p, .int q]) (.int 0) s = .ok (.int p) s := rfl
    have i1 : ixD (.tup [.int p, .int q]) (.int 1) s = .ok (.int q) s := rfl
    have e2 : decide ((if p < 0 then -p else p) < 100000000000000000000) = decide (p.natAbs < 10 ^ 20) := by
      apply decide_eq_decide.mpr
      constructor
      · intro h; split at h <;> omega
      · intro h; split <;> omega
    have e3 : isFr (.tup [.int p, .int q]) = (decide (p.natAbs < 10 ^ 20) && decide (q < 10 ^ 20)) := by
      simp only [isFr, e, Bool.true_and]
    have e4 : decide (q < 100000000000000000000) = decide (q < 10 ^ 20) := rfl
    rw [e3]
    generalize hA : decide (p.natAbs < 10 ^ 20) = bA at *
    unfold r_is_fraction
    cases bA with
    | false =>
      repeat (first | walk_at "sem1" | simp only [h1, i0, i1, e2])
      rfl
    | true =>
      repeat (first | walk_at "sem1" | simp only [h1, i0, i1, e2])
      rfl
theorem isAF_fr (x : Rat) : isAF (fr x) = true := by
  have h1 := x.den_pos
  have h2 := x.reduced
  simp only [isAF, fr, Bool.and_eq_true, decide_eq_true_eq]
  refine ⟨by omega, ?_⟩
  unfold Int.gcd
  rw [Int.natAbs_natCast]
  exact h2
theorem isFr_fr {x : Rat} (h : Sm 60 x) : isFr (fr x) = true := by
  have h1 := isAF_fr x
  have h2 : (2 : Nat) ^ 60 < 10 ^ 20 := by decide
  have h3 := h.1
  have h4 := h.2
  unfold fr at h1
  simp only [fr, isFr, h1, Bool.true_and, Bool.and_eq_true, decide_eq_true_eq]
  constructor
  · omega
  · have : ((2 ^ 60 : Nat) : Int) < 10 ^ 20 := by decide
    omega
/-! what is no part, no ladder -/
theorem sign_raw (p : Int) (y : D) (s : Sto) : r_sign [.tup [.int p, y]] s = .ok (.int p.sign) s := by
  have i0 : ixD (.tup [.int p, y]) (.int 0) s = .ok (.int p) s := rfl
  unfold r_sign
  repeat (first | walk_at "sem1" | simp only [i0])
  rcases Int.lt_trichotomy p 0 with h | h | h
  · rw [decide_eq_false (show ¬ (0 < p) by omega), decide_eq_true h, Int.sign_eq_neg_one_of_neg h]; rfl
  · rw [h]; rfl
  · rw [decide_eq_true h, decide_eq_false (show ¬ (p < 0) by omega), Int.sign_eq_one_of_pos h]; rfl
def posD : D → Bool
  | .tup [.int p, _] => decide (0 < p)
  | _ => false
def isPart : D → Bool
  | .tup [.str w, f] => (decide (w = "row") || decide (w = "beside")) && (isFr f && posD f)
  | _ => false
def isLad : D → Bool
  | .tup xs => decide (1 ≤ xs.length ∧ xs.length ≤ 12) && xs.all isPart
  | _ => false
theorem in_words {w : Str} (h : plN 1 (.str w) = true) (s : Sto) : inD (.str w) (.tup [.str "row", .str "beside"]) s = .ok (.bl (decide (w = "row") || decide (w = "beside"))) s := by
  rw [inD_tup 1 h (fun x hx => by
    simp only [List.mem_cons, List.not_mem_nil, or_false] at hx
    rcases hx with rfl | rfl <;> decide +kernel) (by decide)]
  congr 2
  rw [Bool.eq_iff_iff]
  simp
theorem ispart_ok {d : D} (h : shp 4 d = true) (s : Sto) : r_is_part [d] s = .ok (.bl (isPart d)) s := by
  have c0 : (!((0 : Int) == 2)) = true := by decide
  have c1 : (!((1 : Int) == 2)) = true := by decide
  have c2 : (!((2 : Int) == 2)) = false := by decide
  by_cases ht : ∃ xs, d = .tup xs
  · obtain ⟨xs, rfl⟩ := ht
    have it : ∀ xs, isiF "tuple" (.tup xs) s = .ok (.bl true) s := fun _ => rfl
    match xs, h with
    | [], _ =>
      have hl : lenF [.tup []] s = .ok (.int 0) s := rfl
      unfold r_is_part
      repeat (first | walk_at "sem1" | simp only [it, hl, c0])
      rfl
    | [a], _ =>
      have hl : lenF [.tup [a]] s = .ok (.int 1) s := rfl
      unfold r_is_part
      repeat (first | walk_at "sem1" | simp only [it, hl, c1])
      cases a <;> rfl
    | a :: b :: c :: r, _ =>
      have hl : lenF [.tup (a :: b :: c :: r)] s = .ok (.int ((r.length + 3 : Nat) : Int)) s := rfl
      have c3 : (!(((r.length + 3 : Nat) : Int) == 2)) = true := by
        simp only [Bool.not_eq_true', beq_eq_false_iff_ne, ne_eq]; omega
      have hf : isPart (.tup (a :: b :: c :: r)) = false := by
        cases a <;> rfl
      rw [hf]
      unfold r_is_part
      generalize ((r.length + 3 : Nat) : Int) = nn at *
      repeat (first | walk_at "sem1" | simp only [it, hl, c3])
    | [a, b], h =>
      have hl : lenF [.tup [a, b]] s = .ok (.int 2) s := rfl
      have x0 : ixD (.tup [a, b]) (.int 0) s = .ok a s := rfl
      have x1 : ixD (.tup [a, b]) (.int 1) s = .ok b s := rfl
      have h : shp 3 a = true ∧ shp 3 b = true := by
        simpa only [shp, List.all_cons, List.all_nil, Bool.and_true, Bool.and_eq_true] using h
      obtain ⟨ha, hb⟩ := h
      by_cases hai : ∃ p, a = .str p
      · obtain ⟨w, rfl⟩ := hai
        have i1 : isiF "str" (.str w) s = .ok (.bl true) s := rfl
        have hw := in_words (w := w) ha s
        have hfr := isfrac_ok (k := 1) hb s
        have e0 : isPart (.tup [.str w, b]) = ((decide (w = "row") || decide (w = "beside")) && (isFr b && posD b)) := rfl
        rw [e0]
        clear e0
        generalize (decide (w = "row") || decide (w = "beside")) = bW at *
        cases bW with
        | false =>
          unfold r_is_part
          repeat (first | walk_at "sem1" | simp only [it, hl, c2, x0, i1, hw])
          rfl
        | true =>
          cases e1 : isFr b with
          | false =>
            rw [e1] at hfr
            unfold r_is_part
            repeat (first | walk_at "sem1" | simp only [it, hl, c2, x0, x1, i1, hw, hfr])
            rfl
          | true =>
            rw [e1] at hfr
            obtain ⟨p, q, rfl⟩ : ∃ p q, b = .tup [.int p, .int q] := by
              unfold isFr at e1
              split at e1
              · exact ⟨_, _, rfl⟩
              · cases e1
            have hs := sign_raw p (.int q) s
            have e3 : decide (0 < p.sign) = decide (0 < p) := decide_eq_decide.mpr Int.sign_pos_iff
            have e4 : posD (.tup [.int p, .int q]) = decide (0 < p) := rfl
            simp only [Bool.true_and]
            rw [e4, ← e3]
            unfold r_is_part
            repeat (first | walk_at "sem1" | simp only [it, hl, c2, x0, x1, i1, hw, hfr, hs])
      · have hbn : isPart (.tup [a, b]) = false := by
          cases a <;> first | rfl | exact absurd ⟨_, rfl⟩ hai
        rw [hbn]
        obtain ⟨ta, ht⟩ := shp_ty ha
        have i3 := isi_of (T := "str") s ht
        have i5 : (ta == "str" || (ta == "bool" && "str" == "int")) = false := by
          cases a <;> simp only [tyD, Option.some.injEq, reduceCtorEq] at ht <;> subst ht <;> first | exact absurd ⟨_, rfl⟩ hai | decide
        rw [i5] at i3
        unfold r_is_part
        repeat (first | walk_at "sem1" | simp only [it, hl, c2, x0, i3])
  · obtain ⟨ta, ht2⟩ := shp_ty h
    have it := isi_ntup s ht ht2
    have e0 : isPart d = false := by
      cases d <;> first | rfl | exact absurd ⟨_, rfl⟩ ht
    rw [e0]
    unfold r_is_part
    repeat (first | walk_at "sem1" | simp only [it, Bool.false_eq_true])
theorem looklad_ok {d : D} (h : shp 5 d = true) (s : Sto) : r_look_at_ladder [d] s = if isLad d = true then .ok .non s else .ex ⟨"BadValue", none⟩ s := by
  by_cases ht : ∃ xs, d = .tup xs
  · obtain ⟨xs, rfl⟩ := ht
    have it : isiF "tuple" (.tup xs) s = .ok (.bl true) s := rfl
    have hl : lenF [.tup xs] s = .ok (.int xs.length) s := rfl
    have hx : ∀ x ∈ xs, shp 4 x = true := by
      simp only [shp, List.all_eq_true] at h
      exact h
    by_cases h1 : 1 ≤ xs.length
    · have c1 : decide ((1 : Int) ≤ xs.length) = true := decide_eq_true (by omega)
      by_cases h2 : xs.length ≤ 12
      · have c2 : decide ((xs.length : Int) ≤ 12) = true := decide_eq_true (by omega)
        have hlc : mLc [1] (mIter (mVar 0)) (mgName 1) mYes (mCall 1 r_is_part (mCons (mVar 1) mNil)) [some (.tup xs), none] s = .ok (.lst (xs.map fun d => .bl (isPart d))) s := by
          refine lc_ok (ds := xs) (s1 := s) (iter_ok rfl rfl) (lcL_pure _ fun d hd => ?_) (by rw [List.length_map]; omega)
          have e := ispart_ok (hx d hd) s
          refine ⟨_, rfl, rfl, ?_⟩
          simp only [wipeD, List.foldl_cons, List.foldl_nil, List.set_cons_zero, List.set_cons_succ]
          repeat (first | walk_at "sem1" | simp only [e])
        have ha := allF_map xs isPart s
        have e0 : isLad (.tup xs) = xs.all isPart := by
          simp only [isLad, decide_eq_true (show 1 ≤ xs.length ∧ xs.length ≤ 12 from ⟨h1, h2⟩), Bool.true_and]
        rw [e0]
        unfold r_look_at_ladder
        generalize (List.map (fun d => D.bl (isPart d)) xs) = ys at *
        generalize xs.all isPart = bb at *
        cases bb with
        | true => repeat (first | walk_at "sem1" | simp only [it, hl, c1, c2, hlc, ha, Bool.false_eq_true])
        | false => repeat (first | walk_at "sem1" | simp only [it, hl, c1, c2, hlc, ha, Bool.false_eq_true])
      · have c2 : decide ((xs.length : Int) ≤ 12) = false := decide_eq_false (by omega)
        have e0 : isLad (.tup xs) = false := by
          simp only [isLad, decide_eq_false (show ¬ (1 ≤ xs.length ∧ xs.length ≤ 12) from fun z => h2 z.2), Bool.false_and]
        rw [e0]
        unfold r_look_at_ladder
        repeat (first | walk_at "sem1" | simp only [it, hl, c1, c2, Bool.false_eq_true])
    · have c1 : decide ((1 : Int) ≤ xs.length) = false := decide_eq_false (by omega)
      have e0 : isLad (.tup xs) = false := by
        simp only [isLad, decide_eq_false (show ¬ (1 ≤ xs.length ∧ xs.length ≤ 12) from fun z => h1 z.1), Bool.false_and]
      rw [e0]
      unfold r_look_at_ladder
      repeat (first | walk_at "sem1" | simp only [it, hl, c1, Bool.false_eq_true])
  · obtain ⟨ta, ht2⟩ := shp_ty h
    have it := isi_ntup s ht ht2
    have e0 : isLad d = false := by
      cases d <;> first | rfl | exact absurd ⟨_, rfl⟩ ht
    rw [e0]
    unfold r_look_at_ladder
    repeat (first | walk_at "sem1" | simp only [it, Bool.false_eq_true])
theorem isPart_part {p : Part} (hp : 0 < p.2 ∧ Sm 3 p.2) : isPart (partD p) = true := by
  obtain ⟨b, r⟩ := p
  have h1 : isFr (fr r) = true := isFr_fr (hp.2.mono (by decide))
  have h2 : 0 < r.num := num_pos.mpr hp.1
  have h3 : isPart (partD (b, r)) = ((decide ((if b then "row" else "beside" : Str) = "row") || decide ((if b then "row" else "beside" : Str) = "beside")) && (isFr (fr r) && decide (0 < r.num))) := rfl
  rw [h3, h1, decide_eq_true h2]
  cases b <;> simp
theorem isLad_lad {L : List Part} (hL : okL L) (h1 : 1 ≤ L.length) (h2 : L.length ≤ 12) : isLad (ladD L) = true := by
  simp only [isLad, ladD, List.length_map, decide_eq_true (show 1 ≤ L.length ∧ L.length ≤ 12 from ⟨h1, h2⟩), Bool.true_and, List.all_map, List.all_eq_true, Function.comp]
  exact fun p hp => isPart_part (hL p hp)
theorem plN_part (p : Part) : plN 3 (partD p) = true := by
  have h1 := plN_mono (plN_word p.1) (show 1 ≤ 2 by decide)
  have h2 := plN_fr p.2
  simp only [partD, plN, List.all_cons, List.all_nil, Bool.and_true, Bool.and_eq_true]
  exact ⟨h1, h2⟩
theorem plN_lad (L : List Part) : plN 4 (ladD L) = true := by
  simp only [ladD, plN, List.all_map, List.all_eq_true, Function.comp]
  exact fun p _ => plN_part p
theorem shp_mono : ∀ {k : Nat} {d : D}, shp k d = true → ∀ {j : Nat}, k ≤ j → shp j d = true
  | 0, _, h, _, _ => by cases h
  | k + 1, d, h, j, hj => by
    obtain ⟨j, rfl⟩ : ∃ j', j = j' + 1 := ⟨j - 1, by omega⟩
    cases d with
    | non => rfl
    | bl b => rfl
    | int i => rfl
    | str x => exact h
    | tup xs =>
      simp only [shp, List.all_eq_true] at h ⊢
      exact fun x hx => shp_mono (h x hx) (by omega)
    | lst xs =>
      simp only [shp, List.all_eq_true] at h ⊢
      exact fun x hx => shp_mono (h x hx) (by omega)
    | _ => cases h
theorem look_lad {L : List Part} (hL : okL L) (h1 : 1 ≤ L.length) (h2 : L.length ≤ 12) (s : Sto) : r_look_at_ladder [ladD L] s = .ok .non s := by
  rw [looklad_ok (shp_mono (shp_of_pl (plN_lad L)) (by decide)) s, if_pos (isLad_lad hL h1 h2)]
theorem fr_one' (x : Rat) (h : x ≠ 0) : (1 : Rat) / x ≠ 0 := by grind
theorem sm_one : Sm 1 1 := ⟨by decide, by decide⟩
theorem turned_loop {a : Option D} {s t : Sto} : ∀ (M : List Part) (acc : List D) (x2 x3 x4 : Option D), okL M → acc.length + M.length < 100000 →
    ∃ y2 y3 y4, forL (mgTup 2 (mgCons (mgName 2) (mgCons (mgName 3) mgNil))) b_turned_3 (M.map partD) [a, some (.ref s.length), x2, x3, x4] (s ++ [.lst acc]) = .nx [a, some (.ref s.length), y2, y3, y4] (s ++ [.lst (acc ++ (M.map dual).map partD)])
  | [], acc, x2, x3, x4, _, _ => ⟨x2, x3, x4, by simp [forL]⟩
  | p :: M, acc, x2, x3, x4, hM, hlen => by
    have hp := hM p (List.mem_cons_self ..)
    rw [List.length_cons] at hlen
    have hr : p.2 ≠ 0 := by have := hp.1; grind
    obtain ⟨b, r⟩ := p
    have ho := over_ok (s ++ [.lst acc]) sm_one hp.2 hr (by decide) (by decide) (by decide)
    obtain ⟨y2, y3, y4, h⟩ := turned_loop (a := a) (s := s) (t := t) M (acc ++ [partD (dual (b, r))]) (some (wordD b)) (some (fr r)) (some (wordD (!b))) (fun q hq => hM q (List.mem_cons_of_mem _ hq)) (by rw [List.length_append, List.length_cons, List.length_nil]; omega)
    refine ⟨y2, y3, y4, ?_⟩
    have hw := fun s => word_row b s
    have hat : (s ++ [O.lst acc])[s.length]? = some (.lst acc) := by rw [List.getElem?_append_right (Nat.le_refl _), Nat.sub_self]; rfl
    have hlt : acc.length < 100000 := by omega
    have hset : (s ++ [O.lst acc]).set s.length (.lst (acc ++ [partD (dual (b, r))])) = s ++ [.lst (acc ++ [partD (dual (b, r))])] := by
      rw [List.set_append_right _ _ (Nat.le_refl _), Nat.sub_self]; rfl
    have hty : isTy "list" (s ++ [O.lst acc]) (.ref s.length) = true := by simp only [isTy, hat]; rfl
    have happ : appendM (.ref s.length) [.tup [wordD (!b), fr (1 / r)]] (s ++ [.lst acc]) = .ok .non (s ++ [.lst (acc ++ [partD (dual (b, r))])]) := by
      simp only [appendM, hat, hlt, if_true]
      rw [← hset]; rfl
    have e2 : b_turned_3 [a, some (.ref s.length), some (wordD b), some (fr r), x4] (s ++ [.lst acc]) = .nx [a, some (.ref s.length), some (wordD b), some (fr r), some (wordD (!b))] (s ++ [.lst (acc ++ [partD (dual (b, r))])]) := by
      unfold b_turned_3
      simp only [t_turned_5, t_turned_7]
      have hone : (D.tup [.int 1, .int 1]) = fr 1 := rfl
      rw [hone]
      have w1 : (2 : Nat) ≤ 100000 := by decide
      cases b with
      | true =>
        have hb : (D.str "beside") = wordD (!true) := rfl
        rw [hb]
        have hx : (D.str "row") = wordD true := rfl
        rw [hx] at hw ⊢
        generalize wordD (!true) = wb at *
        generalize wordD true = wd at *
        generalize fr (1 / r) = fo at *
        generalize fr 1 = f1 at *
        generalize fr r = f at *
        repeat (first | walk_at "sem1" | simp only [hw, ho, mMeth, hty, happ, w1])
      | false =>
        have hx : (D.str "row") = wordD (!false) := rfl
        rw [hx] at hw ⊢
        generalize wordD (!false) = wb at *
        generalize wordD false = wd at *
        generalize fr (1 / r) = fo at *
        generalize fr 1 = f1 at *
        generalize fr r = f at *
        repeat (first | walk_at "sem1" | simp only [hw, ho, mMeth, hty, happ, w1])
    have e1 : mgTup 2 (mgCons (mgName 2) (mgCons (mgName 3) mgNil)) (partD (b, r)) [a, some (.ref s.length), x2, x3, x4] (s ++ [.lst acc]) = .ok [a, some (.ref s.length), some (wordD b), some (fr r), x4] (s ++ [.lst acc]) := by
      simp only [mgTup, partD]
      generalize wordD b = wd at *
      generalize fr r = f at *
      repeat (first | walk_at "sem1")
    simp only [List.map_cons, forL, e1, e2]
    rw [h, List.append_assoc]
    rfl
theorem turned_ok {L : List Part} (hL : okL L) (h1 : 1 ≤ L.length) (h2 : L.length ≤ 12) {s : Sto} (hs : plS s) : r_turned [ladD L] s = .ok (ladD (L.map dual)) s := by
  have e1 := look_lad hL h1 h2 s
  obtain ⟨y2, y3, y4, h⟩ := turned_loop (a := some (ladD L)) (s := s) (t := []) L [] none none none hL (by rw [List.length_nil]; omega)
  rw [List.nil_append] at h
  have hl : l_turned_3 [some (ladD L), some (.ref s.length), none, none, none] (s ++ [.lst []]) = .nx [some (ladD L), some (.ref s.length), y2, y3, y4] (s ++ [.lst ((L.map dual).map partD)]) := by
    unfold l_turned_3
    rw [for_ok (iter_ok rfl rfl)]
    exact h
  have ht : tupleF [.ref s.length] (s ++ [.lst ((L.map dual).map partD)]) = .ok (ladD (L.map dual)) (s ++ [.lst ((L.map dual).map partD)]) := by
    have hat : (s ++ [O.lst ((L.map dual).map partD)])[s.length]? = some (.lst ((L.map dual).map partD)) := by rw [List.getElem?_append_right (Nat.le_refl _), Nat.sub_self]; rfl
    simp only [tupleF, rdL, hat]; rfl
  have hb := backF_pl (t := [.lst ((L.map dual).map partD)]) hs (plN_mono (plN_lad (L.map dual)) (show 4 ≤ 12 by decide))
  unfold r_turned
  simp only [t_turned_2, t_turned_3, t_turned_8]
  generalize ladD (L.map dual) = r at *
  generalize ladD L = ld at *
  generalize List.map partD (L.map dual) = xs at *
  have z0 : (0 : Nat) ≤ 100000 := by decide
  simp only [mDef, List.length_cons, List.length_nil, Nat.reduceAdd, if_true, List.map_cons, List.map_nil, Nat.reduceSub, List.replicate_succ, List.replicate_zero, List.cons_append, List.nil_append]
  have key : outR (mSeq (mExpr (mCall 1 r_look_at_ladder (mCons (mVar 0) mNil))) (mSeq (mAsg (mNew mNil) (mgName 1)) (mSeq l_turned_3 (mRet (mCB tupleF (mCons (mVar 1) mNil))))) [some ld, none, none, none, none] s) = .ok r (s ++ [.lst xs]) := by
    repeat (first | walk_at "sem1" | simp only [e1, mNew, z0, hl, ht])
  rw [key, hb]
theorem isnum_ok (p q : Int) (s : Sto) : r_is_number [.tup [.int p, .int q]] s = .ok (.bl (decide (1 ≤ q) && decide (Int.gcd p q = 1))) s := by
  have t2 : lenF [.tup [.int p, .int q]] s = .ok (.int 2) s := rfl
  have t3 : ∀ i : Int, isiF "int" (.int i) s = .ok (.bl true) s := fun _ => rfl
  have t4 : ∀ i : Int, isiF "bool" (.int i) s = .ok (.bl false) s := fun _ => rfl
  have t5 : isiF "tuple" (.tup [.int p, .int q]) s = .ok (.bl true) s := rfl
  unfold r_is_number
  by_cases hq : q < 1
  · rw [decide_eq_false (show ¬ (1 ≤ q) by omega)]
    have e1 : decide (q < 1) = true := decide_eq_true hq
    repeat (first | walk_at "sem1" | simp only [t5, t2, t3, t4, e1])
    rfl
  · rw [decide_eq_true (show (1 ≤ q) by omega)]
    have e1 : decide (q < 1) = false := decide_eq_false hq
    have h := euclid2_while (i := 1) (j := 2) (by decide) p.natAbs p q [some (.tup [.int p, .int q]), some (.int p), some (.int q)] s (Nat.le_refl _) (by omega) rfl rfl
    generalize mWhile (mTest (mOp neD (mVar 1) (mC (.int 0)))) (mPar 1 2 (mCons (mOp modD (mVar 2) (mCB absF (mCons (mVar 1) mNil))) (mCons (mCB absF (mCons (mVar 1) mNil)) mNil))) = w at *
    repeat (first | walk_at "sem1" | simp only [t5, t2, t3, t4, e1, h])
    rw [Bool.true_and]
    refine congrArg (fun b => R.ok (D.bl b) s) ?_
    by_cases hg : Int.gcd p q = 1
    · simp [hg]
    · have : ¬ (((Int.gcd p q : Nat) : Int) = 1) := by omega
      simp [hg, this]
theorem isnum_fr (x : Rat) (s : Sto) : r_is_number [fr x] s = .ok (.bl true) s := by
  have h := isnum_ok x.num x.den s
  have h1 : (1 : Int) ≤ x.den := by have := x.den_pos; omega
  have h2 : Int.gcd x.num x.den = 1 := by
    have := x.reduced
    simpa [Int.gcd, Nat.Coprime] using this
  rw [decide_eq_true h1, decide_eq_true h2] at h
  exact h
/-! ### the Euclid of rows -/
theorem euclid3_while {i j : Nat} (hij : i ≠ j) : ∀ (n : Nat) (a b : Int) (l : DL.Loc) (s : Sto), b.natAbs ≤ n → 0 ≤ a → 0 ≤ b → l[i]? = some (some (.int a)) → l[j]? = some (some (.int b)) →
    mWhile (mTest (mOp gtD (mVar j) (mC (.int 0)))) (mPar i j (mCons (mVar j) (mCons (mOp modD (mVar i) (mVar j)) mNil))) l s = .nx ((l.set i (some (.int (Int.gcd a b : Nat)))).set j (some (.int 0))) s := by
  intro n
  induction n with
  | zero =>
    intro a b l s hn ha hb0 hi hj
    have hb : b = 0 := by omega
    subst hb
    rw [mWhile_eq]
    have c : decide ((0 : Int) < 0) = false := by decide
    simp only [mTest, mOp, mVar, hj, mC, R.bind_ok, cmpD, c]
    have e1 : l.set i (some (.int (Int.gcd a 0 : Nat))) = l := by
      apply List.ext_getElem?
      intro k
      by_cases h : i = k
      · subst h
        rw [List.getElem?_set_self (List.getElem?_eq_some_iff.mp hi).1, hi, Int.gcd_zero_right]
        congr 3
        omega
      · rw [List.getElem?_set_ne h]
    have e2 : l.set j (some (.int 0)) = l := by
      apply List.ext_getElem?
      intro k
      by_cases h : j = k
      · subst h
        rw [List.getElem?_set_self (List.getElem?_eq_some_iff.mp hj).1, hj]
      · rw [List.getElem?_set_ne h]
    rw [e1, e2]
  | succ n ih =>
    intro a b l s hn ha hb0 hi hj
    by_cases hb : b = 0
    · exact ih a b l s (by omega) ha hb0 hi hj
    · have hlt := fmod_natAbs a b hb
      have hli : i < l.length := (List.getElem?_eq_some_iff.mp hi).1
      have hlj : j < l.length := (List.getElem?_eq_some_iff.mp hj).1
      have h3 := ih b (a.fmod b) ((l.set i (some (.int b))).set j (some (.int (a.fmod b)))) s (by omega) hb0 (Int.fmod_nonneg_of_pos a (by omega))
        (by rw [List.getElem?_set_ne (Ne.symm hij), List.getElem?_set_self hli]) (by rw [List.getElem?_set_self (by rw [List.length_set]; exact hlj)])
      rw [mWhile_eq]
      have hne : decide ((0 : Int) < b) = true := decide_eq_true (by omega)
      simp only [mTest, mOp, mVar, hj, mC, R.bind_ok, cmpD, hne]
      simp only [mPar, mCons, mVar, hj, hi, mOp, R.bind_ok, modD, if_neg hb, mNil, toOut]
      rw [h3, gcd_fmod]
      congr 1
      apply List.ext_getElem?
      intro k
      by_cases hk : j = k
      · subst hk
        rw [List.getElem?_set_self (by simpa using hlj), List.getElem?_set_self (by simpa using hlj)]
      · rw [List.getElem?_set_ne hk, List.getElem?_set_ne hk]
        by_cases hk2 : i = k
        · subst hk2
          rw [List.getElem?_set_self (by simpa using hli), List.getElem?_set_self (by simpa using hli)]
        · rw [List.getElem?_set_ne hk2, List.getElem?_set_ne hk2, List.getElem?_set_ne hk, List.getElem?_set_ne hk2]
/-- the greatest common divisor of a row -/
def gcdL (xs : List Int) (g : Nat) : Nat := xs.foldl (fun g x => Int.gcd g x) g
theorem gcd_abs (g : Nat) (x : Int) : Int.gcd (g : Int) (if x < 0 then -x else x) = Int.gcd g x := by
  split
  · rw [Int.gcd_neg]
  · rfl
theorem gd_loop (s : Sto) : ∀ (xs : List Int) (g : Nat) (x0 x2 x3 x4 : Option D), ∃ y2 y3 y4,
    forL (mgName 2) (mSeq (mPar 3 4 (mCons (mVar 1) (mCons (mCB absF (mCons (mVar 2) mNil)) mNil))) (mSeq (mWhile (mTest (mOp gtD (mVar 4) (mC (.int 0)))) (mPar 3 4 (mCons (mVar 4) (mCons (mOp modD (mVar 3) (mVar 4)) mNil)))) (mAsg (mVar 3) (mgName 1)))) (xs.map D.int) [x0, some (.int g), x2, x3, x4] s = .nx [x0, some (.int (gcdL xs g : Nat)), y2, y3, y4] s
  | [], g, x0, x2, x3, x4 => ⟨x2, x3, x4, rfl⟩
  | x :: xs, g, x0, x2, x3, x4 => by
    obtain ⟨y2, y3, y4, h⟩ := gd_loop s xs (Int.gcd g x) x0 (some (.int x)) (some (.int (Int.gcd g x : Nat))) (some (.int 0))
    refine ⟨y2, y3, y4, ?_⟩
    have hw := euclid3_while (i := 3) (j := 4) (by decide) (if x < 0 then -x else x).natAbs g (if x < 0 then -x else x) [x0, some (.int g), some (.int x), some (.int g), some (.int (if x < 0 then -x else x))] s (Nat.le_refl _) (by omega) (by split <;> omega) rfl rfl
    rw [gcd_abs] at hw
    have e : mSeq (mPar 3 4 (mCons (mVar 1) (mCons (mCB absF (mCons (mVar 2) mNil)) mNil))) (mSeq (mWhile (mTest (mOp gtD (mVar 4) (mC (.int 0)))) (mPar 3 4 (mCons (mVar 4) (mCons (mOp modD (mVar 3) (mVar 4)) mNil)))) (mAsg (mVar 3) (mgName 1))) [x0, some (.int g), some (.int x), x3, x4] s = .nx [x0, some (.int (Int.gcd g x : Nat)), some (.int x), some (.int (Int.gcd g x : Nat)), some (.int 0)] s := by
      generalize hwh : mWhile (mTest (mOp gtD (mVar 4) (mC (.int 0)))) (mPar 3 4 (mCons (mVar 4) (mCons (mOp modD (mVar 3) (mVar 4)) mNil))) = wh at *
      repeat (first | walk_at "sem1" | simp only [hw])
    simp only [List.map_cons, forL, mgName, List.set_cons_zero, List.set_cons_succ, e, gcdL, List.foldl_cons]
    exact h
theorem gd_for (s : Sto) (d : D) (xs : List Int) (hd : stands d = some (xs.map D.int)) (x2 x3 x4 : Option D) : ∃ y2 y3 y4,
    mFor (mIter (mVar 0)) (mgName 2) (mSeq (mPar 3 4 (mCons (mVar 1) (mCons (mCB absF (mCons (mVar 2) mNil)) mNil))) (mSeq (mWhile (mTest (mOp gtD (mVar 4) (mC (.int 0)))) (mPar 3 4 (mCons (mVar 4) (mCons (mOp modD (mVar 3) (mVar 4)) mNil)))) (mAsg (mVar 3) (mgName 1)))) [some d, some (.int 0), x2, x3, x4] s = .nx [some d, some (.int (gcdL xs 0 : Nat)), y2, y3, y4] s := by
  rw [for_ok (ds := xs.map D.int) (s1 := s) (iter_ok rfl hd)]
  exact gd_loop s xs 0 (some d) x2 x3 x4
theorem gd_ok (s : Sto) {d : D} {xs : List Int} (hd : stands d = some (xs.map D.int)) : r_greatest_divisor [d] s = .ok (.int (gcdL xs 0 : Nat)) s := by
  obtain ⟨y2, y3, y4, h⟩ := gd_for s d xs hd none none none
  have h : l_greatest_divisor_2 [some d, some (.int 0), none, none, none] s = .nx [some d, some (.int (gcdL xs 0 : Nat)), y2, y3, y4] s := h
  unfold r_greatest_divisor
  simp only [t_greatest_divisor_2, t_greatest_divisor_7]
  repeat (first | walk_at "sem1" | simp only [h])
/-! what is no root -/
def isI : D → Bool
  | .int _ => true
  | _ => false
def isRoot : D → Bool
  | .tup [.str w, .int a, .int b, .int c] => decide (w = "root") && (decide (0 < a) && (decide (c < 0) && decide (gcdL [a, b, c] 0 = 1)))
  | _ => false
theorem isI_ok {k : Nat} {d : D} (h : shp k d = true) (l : DL.Loc) (i : Nat) (hl : l[i]? = some (some d)) (s : Sto) : mAndV (mIsi "int" (mVar i)) (mNotV (mIsi "bool" (mVar i))) l s = .ok (.bl (isI d)) s := by
  obtain ⟨a, ht⟩ := shp_ty h
  have i1 := isi_of (T := "int") s ht
  have i2 := isi_of (T := "bool") s ht
  cases d <;> simp only [tyD, Option.some.injEq, reduceCtorEq] at ht <;> subst ht
  all_goals
    simp only [mAndV, mIsi, mNotV, mVar, hl, R.bind_ok, i1, i2]
    rfl
theorem neq_root {w : Str} (h : plN 1 (.str w) = true) (s : Sto) : neD (.str w) (.str "root") s = .ok (.bl (!decide (w = "root"))) s := by
  have hr : plN 1 (.str "root") = true := by decide +kernel
  by_cases e : w = "root"
  · subst e
    rw [neD_no 1 rfl hr (by decide)]; simp
  · rw [neD_yes 1 (fun z => e (by injection z)) h hr (by decide)]; simp [e]
theorem isroot_ok {d : D} (h : shp 3 d = true) (s : Sto) : r_is_root [d] s = .ok (.bl (isRoot d)) s := by
  by_cases ht : ∃ xs, d = .tup xs
  · obtain ⟨xs, rfl⟩ := ht
    have it : ∀ xs, isiF "tuple" (.tup xs) s = .ok (.bl true) s := fun _ => rfl
    have hl : lenF [.tup xs] s = .ok (.int xs.length) s := rfl
    by_cases h4 : xs.length = 4
    · obtain ⟨w, x, y, z, rfl⟩ : ∃ w x y z, xs = [w, x, y, z] := by
        match xs, h4 with
        | [w, x, y, z], _ => exact ⟨w, x, y, z, rfl⟩
      have hl : lenF [.tup [w, x, y, z]] s = .ok (.int 4) s := rfl
      have c4 : (!((4 : Int) == 4)) = false := by decide
      have i0 : ixD (.tup [w, x, y, z]) (.int 0) s = .ok w s := rfl
      have i1 : ixD (.tup [w, x, y, z]) (.int 1) s = .ok x s := rfl
      have i3 : ixD (.tup [w, x, y, z]) (.int 3) s = .ok z s := rfl
      have sl : slD (.tup [w, x, y, z]) (some 1) none s = .ok (.tup [x, y, z]) s := rfl
      have h : shp 2 w = true ∧ shp 2 x = true ∧ shp 2 y = true ∧ shp 2 z = true := by
        simpa only [shp, List.all_cons, List.all_nil, Bool.and_true, Bool.and_eq_true] using h
      obtain ⟨hw, hx, hy, hz⟩ := h
      by_cases hws : ∃ u, w = .str u
      · obtain ⟨u, rfl⟩ := hws
        have j1 : isiF "str" (.str u) s = .ok (.bl true) s := rfl
        have hu : plN 1 (.str u) = true := hw
        have hn := neq_root hu s
        by_cases hur : u = "root"
        · rw [decide_eq_true hur, Bool.not_true] at hn
          have lc : ∀ a1, mLc [1] (mIter (mSl slD (mVar 0) (mPart (mC (.int 1))) mNoPart)) (mgName 1) mYes (mAndV (mIsi "int" (mVar 1)) (mNotV (mIsi "bool" (mVar 1)))) [some (.tup [.str u, x, y, z]), a1] s = .ok (.lst ([x, y, z].map fun d => .bl (isI d))) s := fun a1 => by
            refine lc_map (fun d => .bl (isI d)) (ds := [x, y, z]) ?_ (show 3 ≤ 100000 by decide) fun d hd => ?_
            · simp only [mIter, mSl, mVar, List.getElem?_cons_zero, R.bind_ok, mPart, mC, mNoPart, sl, stands]
            · refine ⟨[some (.tup [.str u, x, y, z]), some d], rfl, ?_⟩
              have hd2 : shp 2 d = true := by
                simp only [List.mem_cons, List.not_mem_nil, or_false] at hd
                rcases hd with rfl | rfl | rfl <;> assumption
              exact isI_ok hd2 _ 1 rfl s
          have ha := allF_map [x, y, z] isI s
          by_cases hints : ∃ a b c, x = .int a ∧ y = .int b ∧ z = .int c
          · obtain ⟨a, b, c, rfl, rfl, rfl⟩ := hints
            have hall : ([D.int a, .int b, .int c].all isI) = true := rfl
            rw [hall] at ha
            have hg := gd_ok s (d := .tup [.int a, .int b, .int c]) (xs := [a, b, c]) rfl
            have e : isRoot (.tup [.str u, .int a, .int b, .int c]) = (decide (0 < a) && (decide (c < 0) && decide (gcdL [a, b, c] 0 = 1))) := by
              simp only [isRoot, decide_eq_true hur, Bool.true_and]
            have e2 : (((gcdL [a, b, c] 0 : Nat) : Int) == 1) = decide (gcdL [a, b, c] 0 = 1) := by
              by_cases q : gcdL [a, b, c] 0 = 1
              · simp [q]
              · rw [decide_eq_false q, beq_eq_false_iff_ne]; omega
            rw [e]
            unfold r_is_root
            generalize (gcdL [a, b, c] 0 : Nat) = gg at *
            generalize ([D.int a, .int b, .int c].map fun d => D.bl (isI d)) = ys at *
            generalize mLc [1] (mIter (mSl slD (mVar 0) (mPart (mC (.int 1))) mNoPart)) (mgName 1) mYes (mAndV (mIsi "int" (mVar 1)) (mNotV (mIsi "bool" (mVar 1)))) = lcc at *
            by_cases k1 : 0 < a
            · have d1 := decide_eq_true k1
              by_cases k2 : c < 0
              · have d2 := decide_eq_true k2
                repeat (first | walk_at "sem1" | simp only [it, hl, c4, i0, i1, i3, j1, hn, lc, ha, d1, d2, sl, hg, e2, Bool.true_and])
              · have d2 := decide_eq_false k2
                repeat (first | walk_at "sem1" | simp only [it, hl, c4, i0, i1, i3, j1, hn, lc, ha, d1, d2, Bool.true_and, Bool.false_and])
            · have d1 := decide_eq_false k1
              repeat (first | walk_at "sem1" | simp only [it, hl, c4, i0, i1, j1, hn, lc, ha, d1, Bool.false_and])
          · have hall : ([x, y, z].all isI) = false := by
              cases q : [x, y, z].all isI with
              | false => rfl
              | true =>
                simp only [List.all_cons, List.all_nil, Bool.and_true, Bool.and_eq_true] at q
                refine absurd ?_ hints
                have key : ∀ d, isI d = true → ∃ a, d = .int a := fun d hd => by
                  cases d <;> first | exact ⟨_, rfl⟩ | cases hd
                obtain ⟨a, rfl⟩ := key _ q.1
                obtain ⟨b, rfl⟩ := key _ q.2.1
                obtain ⟨c, rfl⟩ := key _ q.2.2
                exact ⟨a, b, c, rfl, rfl, rfl⟩
            rw [hall] at ha
            have e : isRoot (.tup [.str u, x, y, z]) = false := by
              cases x <;> try rfl
              cases y <;> try rfl
              cases z <;> try rfl
              exact absurd ⟨_, _, _, rfl, rfl, rfl⟩ hints
            rw [e]
            unfold r_is_root
            generalize ([x, y, z].map fun d => D.bl (isI d)) = ys at *
            generalize mLc [1] (mIter (mSl slD (mVar 0) (mPart (mC (.int 1))) mNoPart)) (mgName 1) mYes (mAndV (mIsi "int" (mVar 1)) (mNotV (mIsi "bool" (mVar 1)))) = lcc at *
            repeat (first | walk_at "sem1" | simp only [it, hl, c4, i0, j1, hn, lc, ha])
        · rw [decide_eq_false hur, Bool.not_false] at hn
          have e : isRoot (.tup [.str u, x, y, z]) = false := by
            cases x <;> try rfl
            cases y <;> try rfl
            cases z <;> try rfl
            simp only [isRoot, decide_eq_false hur, Bool.false_and]
          rw [e]
          unfold r_is_root
          repeat (first | walk_at "sem1" | simp only [it, hl, c4, i0, j1, hn])
      · have e : isRoot (.tup [w, x, y, z]) = false := by
          cases w <;> first | rfl | exact absurd ⟨_, rfl⟩ hws
        rw [e]
        obtain ⟨ta, ht⟩ := shp_ty hw
        have j1 := isi_of (T := "str") s ht
        have j2 : (ta == "str" || (ta == "bool" && "str" == "int")) = false := by
          cases w <;> simp only [tyD, Option.some.injEq, reduceCtorEq] at ht <;> subst ht <;> first | exact absurd ⟨_, rfl⟩ hws | decide
        rw [j2] at j1
        unfold r_is_root
        repeat (first | walk_at "sem1" | simp only [it, hl, c4, i0, j1])
    · have c4 : (!((xs.length : Int) == 4)) = true := by
        simp only [Bool.not_eq_true', beq_eq_false_iff_ne, ne_eq]; omega
      have e : isRoot (.tup xs) = false := by
        match xs, h4 with
        | [], _ => rfl
        | [a], _ => cases a <;> rfl
        | [a, b], _ => cases a <;> cases b <;> rfl
        | [a, b, c], _ => cases a <;> cases b <;> cases c <;> rfl
        | [a, b, c, d], h4 => exact absurd rfl h4
        | a :: b :: c :: d :: f :: r, _ => cases a <;> cases b <;> cases c <;> cases d <;> rfl
      rw [e]
      unfold r_is_root
      generalize (xs.length : Int) = n at *
      repeat (first | walk_at "sem1" | simp only [it, hl, c4])
  · obtain ⟨ta, ht2⟩ := shp_ty h
    have it := isi_ntup s ht ht2
    have e0 : isRoot d = false := by
      cases d <;> first | rfl | exact absurd ⟨_, rfl⟩ ht
    rw [e0]
    unfold r_is_root
    repeat (first | walk_at "sem1" | simp only [it, Bool.false_eq_true])
theorem look_root {d : D} (h : shp 3 d = true) (s : Sto) : r_look_at_root [d] s = if isRoot d = true then .ok .non s else .ex ⟨"BadValue", none⟩ s := by
  have e := isroot_ok h s
  unfold r_look_at_root
  generalize isRoot d = b at *
  cases b with
  | true => repeat (first | walk_at "sem1" | simp only [e, Bool.false_eq_true])
  | false => repeat (first | walk_at "sem1" | simp only [e, Bool.false_eq_true])
/-- a root whose integers have no common divisor -/
def Prim (r : Rt) : Prop := gcdL [r.a, r.b, r.c] 0 = 1
instance (r : Rt) : Decidable (Prim r) := inferInstanceAs (Decidable (_ = _))
theorem look_rt {r : Rt} (hr : SzR r) (hp : Prim r) (s : Sto) : r_look_at_root [rootD r] s = .ok .non s := by
  have h1 : shp 3 (rootD r) = true := by
    simp only [rootD, shp, List.all_cons, List.all_nil, Bool.and_true]
    decide +kernel
  have e : isRoot (rootD r) = true := by
    show (decide (("root" : Str) = "root") && (decide (0 < r.a) && (decide (r.c < 0) && decide (gcdL [r.a, r.b, r.c] 0 = 1)))) = true
    rw [decide_eq_true rfl, decide_eq_true (show 0 < r.a by have := hr.a0; omega), decide_eq_true (show r.c < 0 by have := hr.c1; omega)]
    have hp' : gcdL [r.a, r.b, r.c] 0 = 1 := hp
    simp only [Bool.true_and]
    exact decide_eq_true hp'
  rw [look_root h1 s, if_pos e]
/-! ### steps one by one -/
theorem mOp_ok {f : D → D → Sto → R D} {ma mb : ME} {l : DL.Loc} {s s1 s2 : Sto} {d e : D} (ha : ma l s = .ok d s1) (hb : mb l s1 = .ok e s2) : mOp f ma mb l s = f d e s2 := by
  unfold mOp; rw [ha]; simp only [R.bind_ok]; rw [hb]; rfl
theorem mUn_ok {f : D → Sto → R D} {ma : ME} {l : DL.Loc} {s s1 : Sto} {d : D} (ha : ma l s = .ok d s1) : mUn f ma l s = f d s1 := by
  unfold mUn; rw [ha]; rfl
theorem mCons_ok {m : ME} {ms : MA} {l : DL.Loc} {s s1 s2 : Sto} {d : D} {ds : List D} (ha : m l s = .ok d s1) (hb : ms l s1 = .ok ds s2) : mCons m ms l s = .ok (d :: ds) s2 := by
  unfold mCons; rw [ha]; simp only [R.bind_ok]; rw [hb]; rfl
theorem mPar_ok {i j : Nat} {ma : MA} {l : DL.Loc} {s s1 : Sto} {d e : D} (h : ma l s = .ok [d, e] s1) : mPar i j ma l s = .nx ((l.set i (some d)).set j (some e)) s1 := by
  unfold mPar; rw [h]; rfl
/-! ### the program's square root -/
theorem bits_lt (n : Int) (h : 0 < n) : n < 2 ^ (Builtin.Int.intBits n) := by
  unfold Builtin.Int.intBits
  rw [if_neg (by simp; omega)]
  have h1 : n.natAbs < 2 ^ (n.natAbs.log2 + 1) := Nat.lt_log2_self
  have h2 : ((n.natAbs : Nat) : Int) < ((2 ^ (n.natAbs.log2 + 1) : Nat) : Int) := Int.ofNat_lt.mpr h1
  have e : ((2 ^ (n.natAbs.log2 + 1) : Nat) : Int) = (2 : Int) ^ (n.natAbs.log2 + 1) := by push_cast; rfl
  rw [e] at h2
  omega
theorem bits_le (n : Int) {m : Nat} (h : Bd m n) : Builtin.Int.intBits n ≤ m := by
  unfold Builtin.Int.intBits
  split
  · omega
  · rename_i h0
    have h0 : n ≠ 0 := by simpa using h0
    have := (Nat.log2_lt (by omega)).mpr h
    omega
theorem half_lt {a b : Int} (h : 1 < b - a) : a < (a + b).fdiv 2 ∧ (a + b).fdiv 2 < b := by
  rw [Int.fdiv_eq_ediv_of_nonneg _ (by decide)]; omega
theorem sqrt_ok {n : Int} (h0 : 0 ≤ n) {m : Nat} (hb : Bd m n) (hm : m ≤ 4000) (s : Sto) : ∃ q : Int, 0 ≤ q ∧ q * q ≤ n ∧ n < (q + 1) * (q + 1) ∧ r_square_root [.int n] s = .ok (.int q) s := by
  by_cases h2 : n < 2
  · have c : decide (n < 2) = true := decide_eq_true h2
    refine ⟨n, h0, ?_, ?_, ?_⟩
    · rcases (show n = 0 ∨ n = 1 by omega) with rfl | rfl <;> decide
    · rcases (show n = 0 ∨ n = 1 by omega) with rfl | rfl <;> decide
    · unfold r_square_root
      repeat (first | walk_at "sem1" | simp only [c])
  · have c : decide (n < 2) = false := decide_eq_false h2
    have hbits : Builtin.Int.intBits n ≤ 4000 := Nat.le_trans (bits_le n hb) hm
    have d1 := fdivB (i := (Builtin.Int.intBits n : Int) + 1) s (show Bd 10 2 by decide) (by decide) (by decide) (by decide)
    obtain ⟨k, hk⟩ : ∃ k : Nat, ((Builtin.Int.intBits n : Int) + 1).fdiv 2 + 1 = (k : Int) := ⟨(((Builtin.Int.intBits n : Int) + 1).fdiv 2 + 1).toNat, by
      rw [Int.fdiv_eq_ediv_of_nonneg _ (by decide)]; omega⟩
    have hk2 : Builtin.Int.intBits n + 2 ≤ 2 * k ∧ k ≤ 3000 := by
      rw [Int.fdiv_eq_ediv_of_nonneg _ (by decide)] at hk; omega
    have sh : shlD (.int 1) (.int (((Builtin.Int.intBits n : Int) + 1).fdiv 2 + 1)) s = .ok (.int (2 ^ k)) s := by
      have hp : powOk 1 (k : Int) = true := by
        unfold powOk
        simp only [Bool.and_eq_true, decide_eq_true_eq]
        exact ⟨⟨by omega, by omega⟩, by decide⟩
      rw [hk]
      simp only [shlD, hp, if_true, Int.toNat_natCast, Int.one_mul]
    have hhi : n < (2 : Int) ^ k * 2 ^ k := by
      have h1 := bits_lt n (by omega)
      have h3 : (2 : Int) ^ (Builtin.Int.intBits n) ≤ 2 ^ (2 * k) := by
        have : (2 : Nat) ^ (Builtin.Int.intBits n) ≤ 2 ^ (2 * k) := Nat.pow_le_pow_right (by decide) (by omega)
        exact_mod_cast this
      have h4 : (2 : Int) ^ (2 * k) = 2 ^ k * 2 ^ k := by rw [Nat.two_mul, Int.pow_add]
      rw [h4] at h3
      generalize (2 : Int) ^ k * 2 ^ k = y at *
      generalize (2 : Int) ^ (Builtin.Int.intBits n) = z at *
      omega
    have bdk : Bd 3001 (2 ^ k) := by
      unfold Bd
      rw [Int.natAbs_pow]
      exact Nat.pow_lt_pow_right (by decide) (by omega)
    obtain ⟨n', l', s', e, ⟨lo, hi, x3, el, et, p1, p2, p3, p4, p5, hn⟩, hf⟩ := while_inv (mc := mTest (mOp gtD (mOp subD (mVar 2) (mVar 1)) (mC (.int 1)))) (mb := b_square_root_4)
      (fun m l t => ∃ lo hi x3, l = [some (.int n), some (.int lo), some (.int hi), x3] ∧ t = s ∧ 0 ≤ lo ∧ lo < hi ∧ lo * lo ≤ n ∧ n < hi * hi ∧ Bd 3001 hi ∧ m = (hi - lo).toNat)
      (fun m l t ⟨lo, hi, x3, el, et, p1, p2, p3, p4, p5, hn⟩ => by
        subst el et
        by_cases h : 1 < hi - lo
        · right
          have c1 : decide (1 < hi - lo) = true := decide_eq_true h
          obtain ⟨g1, g2⟩ := half_lt h
          have d2 := fdivB (i := lo + hi) t (show Bd 10 2 by decide) (by decide) (by decide) (by decide)
          have hmid : Bd 3001 ((lo + hi).fdiv 2) := by
            unfold Bd at p5 ⊢
            generalize (2 : Nat) ^ 3001 = m3 at *
            omega
          generalize (lo + hi).fdiv 2 = mid at *
          have m1 := mulB t hmid hmid (by decide) (by decide) (by decide)
          by_cases h3 : mid * mid ≤ n
          · have c3 : decide (mid * mid ≤ n) = true := decide_eq_true h3
            refine ⟨?_, (hi - mid).toNat, [some (.int n), some (.int mid), some (.int hi), some (.int mid)], t, by omega, .inl ?_, mid, hi, some (.int mid), rfl, rfl, by omega, by omega, h3, p4, p5, rfl⟩
            · repeat (first | walk_at "sem1" | simp only [c1])
            · unfold b_square_root_4
              simp only [t_square_root_6]
              repeat (first | walk_at "sem1" | simp only [d2, m1, c3])
          · have c3 : decide (mid * mid ≤ n) = false := decide_eq_false h3
            refine ⟨?_, (mid - lo).toNat, [some (.int n), some (.int lo), some (.int mid), some (.int mid)], t, by omega, .inl ?_, lo, mid, some (.int mid), rfl, rfl, by omega, by omega, p3, by omega, hmid, rfl⟩
            · repeat (first | walk_at "sem1" | simp only [c1])
            · unfold b_square_root_4
              simp only [t_square_root_6]
              repeat (first | walk_at "sem1" | simp only [d2, m1, c3])
        · left
          have c1 : decide (1 < hi - lo) = false := decide_eq_false h
          repeat (first | walk_at "sem1" | simp only [c1]))
      _ [some (.int n), some (.int 1), some (.int (2 ^ k)), none] s ⟨1, 2 ^ k, none, rfl, rfl, by decide, by
        rcases Int.lt_or_le 1 (2 ^ k) with z | z
        · exact z
        · exfalso
          have h5 := two_pow_pos k
          have : (2 : Int) ^ k = 1 := by omega
          rw [this] at hhi
          omega, by omega, hhi, bdk, rfl⟩
    subst el et
    have hlt : hi = lo + 1 := by
      rcases Int.lt_or_le 1 (hi - lo) with z | z
      · exfalso
        have c1 : decide (1 < hi - lo) = true := decide_eq_true z
        have : mTest (mOp gtD (mOp subD (mVar 2) (mVar 1)) (mC (.int 1))) [some (.int n), some (.int lo), some (.int hi), x3] s' = .ok true s' := by
          repeat (first | walk_at "sem1" | simp only [c1])
        rw [this] at hf
        cases hf
      · omega
    subst hlt
    refine ⟨lo, p1, p3, p4, ?_⟩
    have e : l_square_root_4 [some (.int n), some (.int 1), some (.int (2 ^ k)), none] s' = .nx [some (.int n), some (.int lo), some (.int (lo + 1)), x3] s' := e
    generalize (2 : Int) ^ k = pk at *
    generalize ((Builtin.Int.intBits n : Int) + 1).fdiv 2 = fd at *
    have hbits : mUn bitsD (mVar 0) [some (.int n), none, none, none] s' = .ok (.int (Builtin.Int.intBits n : Int)) s' := mUn_ok (d := .int n) (s1 := s') rfl
    generalize (Builtin.Int.intBits n : Int) = bb at *
    have hadd : mOp addD (mUn bitsD (mVar 0)) (mC (.int 1)) [some (.int n), none, none, none] s' = .ok (.int (bb + 1)) s' := mOp_ok hbits (e := .int 1) (s2 := s') rfl
    have hdiv : mOp fdivD (mOp addD (mUn bitsD (mVar 0)) (mC (.int 1))) (mC (.int 2)) [some (.int n), none, none, none] s' = .ok (.int fd) s' := (mOp_ok hadd (e := .int 2) (s2 := s') rfl).trans d1
    have hadd2 : mOp addD (mOp fdivD (mOp addD (mUn bitsD (mVar 0)) (mC (.int 1))) (mC (.int 2))) (mC (.int 1)) [some (.int n), none, none, none] s' = .ok (.int (fd + 1)) s' := mOp_ok hdiv (e := .int 1) (s2 := s') rfl
    have hshl : mOp shlD (mC (.int 1)) (mOp addD (mOp fdivD (mOp addD (mUn bitsD (mVar 0)) (mC (.int 1))) (mC (.int 2))) (mC (.int 1))) [some (.int n), none, none, none] s' = .ok (.int pk) s' := (mOp_ok (d := .int 1) (s1 := s') rfl hadd2).trans sh
    have hpar : mPar 1 2 (mCons (mC (.int 1)) (mCons (mOp shlD (mC (.int 1)) (mOp addD (mOp fdivD (mOp addD (mUn bitsD (mVar 0)) (mC (.int 1))) (mC (.int 2))) (mC (.int 1)))) mNil)) [some (.int n), none, none, none] s' = .nx [some (.int n), some (.int 1), some (.int pk), none] s' := mPar_ok (mCons_ok rfl (mCons_ok hshl rfl))
    have key : ∀ mp lp : MS, mp [some (.int n), none, none, none] s' = .nx [some (.int n), some (.int 1), some (.int pk), none] s' → lp [some (.int n), some (.int 1), some (.int pk), none] s' = .nx [some (.int n), some (.int lo), some (.int (lo + 1)), x3] s' → mDef backF 1 4 (mSeq (mIfS (mTest (mOp ltD (mVar 0) (mC (D.int 2)))) (mRet (mVar 0)) mNext) (mSeq mp (mSeq lp (mRet (mVar 1))))) [.int n] s' = .ok (.int lo) s' := fun mp lp hpar e => by
      repeat (first | walk_at "sem1" | simp only [c, hpar, e])
    exact key _ _ hpar e
/-! ### the fraction that a root is -/
def disc (r : Rt) : Int := r.b * r.b - 4 * r.a * r.c
theorem sq_uniq {n p q : Int} (hp : 0 ≤ p) (hq : 0 ≤ q) (h1 : p * p ≤ n) (h2 : n < (p + 1) * (p + 1)) (h3 : q * q ≤ n) (h4 : n < (q + 1) * (q + 1)) : p = q := by
  have := sq_lt_of hp (show 0 ≤ q + 1 by omega) (by omega)
  have := sq_lt_of hq (show 0 ≤ p + 1 by omega) (by omega)
  omega
theorem disc_nn {r : Rt} (hr : SzR r) : 0 ≤ disc r := by
  have h1 : 0 ≤ r.b * r.b := by
    rcases Int.le_total 0 r.b with z | z
    · exact Int.mul_nonneg z z
    · have := Int.mul_nonneg (show 0 ≤ -r.b by omega) (show 0 ≤ -r.b by omega)
      rwa [Int.neg_mul_neg] at this
  have h2 : 0 ≤ r.a * -r.c := Int.mul_nonneg (by have := hr.a0; omega) (by have := hr.c1; omega)
  have : 4 * r.a * r.c = -(4 * (r.a * -r.c)) := by grind
  unfold disc
  omega
theorem disc_bd {r : Rt} (hr : SzR r) : Bd 404 (disc r) := ((hr.b.mul hr.b).mono (by decide)).sub (((show Bd 3 4 by decide).mul hr.a).mul hr.c)
/-- the whole root of the part below, if it is one -/
theorem fracby_ok {r : Rt} (hr : SzR r) (s : Sto) {q : Int} (q0 : 0 ≤ q) (q1 : q * q ≤ disc r) (q2 : disc r < (q + 1) * (q + 1)) :
    r_fraction_by [rootD r] s = .ok (if q * q = disc r then fr (Rat.divInt (q - r.b) (2 * r.a)) else .non) s := by
  obtain ⟨p, p0, p1, p2, e⟩ := sqrt_ok (disc_nn hr) (disc_bd hr) (by decide) s
  have hpq := sq_uniq p0 q0 p1 p2 q1 q2
  subst hpq
  have hp : Bd 405 p := by
    have hd := disc_bd hr
    unfold Bd at hd ⊢
    have h1 : p ≤ disc r ∨ p ≤ 0 := by
      rcases Int.lt_or_le 0 p with z | z
      · left
        have : p * 1 ≤ p * p := Int.mul_le_mul_of_nonneg_left (by omega) p0
        omega
      · exact .inr z
    have e1 : (2 : Nat) ^ 405 = 2 ^ 404 * 2 := by rw [← Nat.pow_succ]
    have e2 : (0 : Nat) < 2 ^ 404 := Nat.pow_pos (by decide)
    rw [e1]
    generalize (2 : Nat) ^ 404 = m at *
    omega
  have m1 := mulB s hr.b hr.b (by decide) (by decide) (by decide)
  have m2 := mulB s (show Bd 3 4 by decide) hr.a (by decide) (by decide) (by decide)
  have m3 := mulB s ((show Bd 3 4 by decide).mul hr.a) hr.c (by decide) (by decide) (by decide)
  have m4 := mulB s hp hp (by decide) (by decide) (by decide)
  have m5 := mulB s (show Bd 3 2 by decide) hr.a (by decide) (by decide) (by decide)
  have f1 := fraction_ok (p := p - r.b) s (N := 203) ((show Bd 3 2 by decide).mul hr.a) (by have := hr.a0; omega) (by decide) (by decide)
  have hg : mgTup 4 (mgCons (mgName 1) (mgCons (mgName 2) (mgCons (mgName 3) (mgCons (mgName 4) mgNil)))) (rootD r) [some (rootD r), none, none, none, none, none, none] s = .ok [some (rootD r), some (.str "root"), some (.int r.a), some (.int r.b), some (.int r.c), none, none] s := rfl
  have hd : r.b * r.b - 4 * r.a * r.c = disc r := rfl
  unfold r_fraction_by
  generalize disc r = d at *
  generalize rootD r = rd at *
  generalize mgTup 4 (mgCons (mgName 1) (mgCons (mgName 2) (mgCons (mgName 3) (mgCons (mgName 4) mgNil)))) = tg at *
  by_cases h : p * p = d
  · have c : (!(p * p == d)) = false := by simp [h]
    rw [if_pos h]
    repeat (first | walk_at "sem1" | simp only [hg, m1, m2, m3, hd, e, m4, c, m5, f1])
  · have c : (!(p * p == d)) = true := by simp [h]
    rw [if_neg h]
    repeat (first | walk_at "sem1" | simp only [hg, m1, m2, m3, hd, e, m4, c])
theorem fx_root {r : Rt} (hr : SzR r) {q : Int} (h : q * q = disc r) (q0 : 0 ≤ q) : fx r (Rat.divInt (q - r.b) (2 * r.a)) = 0 ∧ 0 < Rat.divInt (q - r.b) (2 * r.a) := by
  have ha := hr.a0
  have hc := hr.c1
  have e : Rat.divInt (q - r.b) (2 * r.a) = ((q : Rat) - r.b) / (2 * r.a) := by
    rw [Rat.divInt_eq_div, Rat.intCast_sub, Rat.intCast_mul]; rfl
  have ha' : (0 : Rat) < r.a := Rat.intCast_pos.mpr (by omega)
  have hq : (q : Rat) * q = r.b * r.b - 4 * r.a * r.c := by
    have := congrArg (fun z : Int => (z : Rat)) h
    simp only [disc, Rat.intCast_mul, Rat.intCast_sub] at this
    exact this
  constructor
  · rw [e]; unfold fx; grind
  · refine divInt_pos ?_ (by omega)
    have h1 : r.b * r.b < q * q := by
      have : 0 < r.a * -r.c := Int.mul_pos (by omega) (by omega)
      have : 4 * r.a * r.c = -(4 * (r.a * -r.c)) := by grind
      unfold disc at h
      omega
    rcases Int.lt_or_le 0 r.b with z | z
    · have := sq_lt_of (Int.le_of_lt z) q0 h1; omega
    · rcases Int.lt_or_le q (-r.b) with w | w
      · exfalso
        have := Int.mul_le_mul (Int.le_of_lt w) (Int.le_of_lt w) q0 (by omega)
        rw [Int.neg_mul_neg] at this
        omega
      · rcases Int.lt_or_le r.b q with w2 | w2
        · omega
        · exfalso
          have : q = 0 ∧ r.b = 0 := by omega
          rw [this.1, this.2] at h1
          omega
theorem sign_int (p : Int) (s : Sto) : r_sign [.tup [.int p, .int 1]] s = .ok (.int p.sign) s := by
  have i0 : ixD (.tup [.int p, .int 1]) (.int 0) s = .ok (.int p) s := rfl
  unfold r_sign
  repeat (first | walk_at "sem1" | simp only [i0])
  rw [sign_sub]
theorem isqrt_ex (n : Int) (h : 0 ≤ n) : ∃ q : Int, 0 ≤ q ∧ q * q ≤ n ∧ n < (q + 1) * (q + 1) := by
  obtain ⟨m, rfl⟩ : ∃ m : Nat, n = m := ⟨n.toNat, by omega⟩
  induction m with
  | zero => exact ⟨0, by decide, by decide, by decide⟩
  | succ m ih =>
    obtain ⟨q, q0, q1, q2⟩ := ih (by omega)
    by_cases e : (q + 1) * (q + 1) ≤ ((m + 1 : Nat) : Int)
    · refine ⟨q + 1, by omega, e, ?_⟩
      have : (q + 1 + 1) * (q + 1 + 1) = (q + 1) * (q + 1) + 2 * q + 3 := by grind
      omega
    · exact ⟨q, q0, by omega, by omega⟩
/-! ### ladders as tables of four integers -/
structure Mx where
  a : Int
  b : Int
  c : Int
  d : Int
def mul (M N : Mx) : Mx := ⟨M.a * N.a + M.b * N.c, M.a * N.b + M.b * N.d, M.c * N.a + M.d * N.c, M.c * N.b + M.d * N.d⟩
def mp (p : Part) : Mx := if p.1 then ⟨p.2.den, p.2.num, 0, p.2.den⟩ else ⟨p.2.num, 0, p.2.den, p.2.num⟩
def mx (L : List Part) : Mx := L.foldr (fun p M => mul (mp p) M) ⟨1, 0, 0, 1⟩
def dn (L : List Part) : Int := L.foldr (fun p d => (p.2.den : Int) * d) 1
theorem mul_assoc3 (M N P : Mx) : mul (mul M N) P = mul M (mul N P) := by
  simp only [mul, Mx.mk.injEq]
  refine ⟨?_, ?_, ?_, ?_⟩ <;> grind
theorem mul_one3 (M : Mx) : mul M ⟨1, 0, 0, 1⟩ = M := by
  obtain ⟨a, b, c, d⟩ := M
  simp [mul]
theorem one_mul3 (M : Mx) : mul ⟨1, 0, 0, 1⟩ M = M := by
  obtain ⟨a, b, c, d⟩ := M
  simp [mul]
theorem mx_app (L N : List Part) : mx (L ++ N) = mul (mx L) (mx N) := by
  induction L with
  | nil => exact (one_mul3 _).symm
  | cons p L ih =>
    show mul (mp p) (mx (L ++ N)) = mul (mul (mp p) (mx L)) (mx N)
    rw [ih, mul_assoc3]
theorem den_posI (x : Rat) : (0 : Int) < x.den := by have := x.den_pos; omega
theorem num_posI {x : Rat} (h : 0 < x) : 0 < x.num := num_pos.mpr h
structure Pos4 (M : Mx) : Prop where
  a : 0 < M.a
  b : 0 ≤ M.b
  c : 0 ≤ M.c
  d : 0 < M.d
theorem mx_pos : ∀ {L : List Part}, okL L → Pos4 (mx L)
  | [], _ => ⟨by decide, by decide, by decide, by decide⟩
  | p :: L, hL => by
    obtain ⟨h1, h2, h3, h4⟩ := mx_pos (L := L) fun q hq => hL q (List.mem_cons_of_mem _ hq)
    have hn := num_posI (hL p (List.mem_cons_self ..)).1
    have hq := den_posI p.2
    obtain ⟨w, r⟩ := p
    simp only at hn hq
    show Pos4 (mul (mp (w, r)) (mx L))
    cases w <;> simp only [mp, mul, if_true, Bool.false_eq_true, if_false, Int.zero_mul, Int.add_zero, Int.zero_add]
    · have := Int.mul_pos hn h1; have := Int.mul_nonneg (Int.le_of_lt hn) h2; have := Int.mul_pos hq h1; have := Int.mul_nonneg (Int.le_of_lt hn) h3; have := Int.mul_nonneg (Int.le_of_lt hq) h2; have := Int.mul_pos hn h4
      exact ⟨by dsimp only; omega, by dsimp only; omega, by dsimp only; omega, by dsimp only; omega⟩
    · have := Int.mul_pos hq h1; have := Int.mul_nonneg (Int.le_of_lt hn) h3; have := Int.mul_nonneg (Int.le_of_lt hq) h2; have := Int.mul_pos hn h4; have := Int.mul_nonneg (Int.le_of_lt hq) h3; have := Int.mul_pos hq h4
      exact ⟨by dsimp only; omega, by dsimp only; omega, by dsimp only; omega, by dsimp only; omega⟩
theorem mx_b : ∀ {L : List Part}, okL L → (∃ p ∈ L, p.1 = true) → 0 < (mx L).b
  | [], _, h => by obtain ⟨p, hp, _⟩ := h; cases hp
  | p :: L, hL, h => by
    have hL' : okL L := fun q hq => hL q (List.mem_cons_of_mem _ hq)
    obtain ⟨h1, h2, h3, h4⟩ := mx_pos hL'
    have hn := num_posI (hL p (List.mem_cons_self ..)).1
    have hq := den_posI p.2
    obtain ⟨w, r⟩ := p
    simp only at hn hq
    show 0 < (mul (mp (w, r)) (mx L)).b
    cases w <;> simp only [mp, mul, if_true, Bool.false_eq_true, if_false, Int.zero_mul, Int.add_zero, Int.zero_add]
    · have hb := mx_b hL' (by
        obtain ⟨q, hq, e⟩ := h
        rcases List.mem_cons.mp hq with rfl | hq
        · cases e
        · exact ⟨q, hq, e⟩)
      exact Int.mul_pos hn hb
    · have := Int.mul_nonneg (Int.le_of_lt hq) h2; have := Int.mul_pos hn h4
      omega
theorem mx_c : ∀ {L : List Part}, okL L → (∃ p ∈ L, p.1 = false) → 0 < (mx L).c
  | [], _, h => by obtain ⟨p, hp, _⟩ := h; cases hp
  | p :: L, hL, h => by
    have hL' : okL L := fun q hq => hL q (List.mem_cons_of_mem _ hq)
    obtain ⟨h1, h2, h3, h4⟩ := mx_pos hL'
    have hn := num_posI (hL p (List.mem_cons_self ..)).1
    have hq := den_posI p.2
    obtain ⟨w, r⟩ := p
    simp only at hn hq
    show 0 < (mul (mp (w, r)) (mx L)).c
    cases w <;> simp only [mp, mul, if_true, Bool.false_eq_true, if_false, Int.zero_mul, Int.add_zero, Int.zero_add]
    · have := Int.mul_pos hq h1; have := Int.mul_nonneg (Int.le_of_lt hn) h3
      omega
    · have hc := mx_c hL' (by
        obtain ⟨q, hq, e⟩ := h
        rcases List.mem_cons.mp hq with rfl | hq
        · cases e
        · exact ⟨q, hq, e⟩)
      exact Int.mul_pos hq hc
/-- what is seen ahead, by the table -/
theorem one_mx : ∀ {L : List Part}, okL L → ∀ {x : Rat}, 0 ≤ x → ∃ y : Rat, one L (some x) = some y ∧ 0 ≤ y ∧ ((mx L).c * x + (mx L).d) * y = (mx L).a * x + (mx L).b ∧ 0 < ((mx L).c : Rat) * x + (mx L).d
  | [], _, x, hx => ⟨x, rfl, hx, by simp [mx]; grind, by simp [mx]; grind⟩
  | p :: L, hL, x, hx => by
    have hL' : okL L := fun q hq => hL q (List.mem_cons_of_mem _ hq)
    obtain ⟨y, h1, h2, h3, h4⟩ := one_mx hL' hx
    have hr := (hL p (List.mem_cons_self ..)).1
    obtain ⟨w, r⟩ := p
    simp only at hr
    have hq : (0 : Rat) < ((r.den : Int) : Rat) := Rat.intCast_pos.mpr (den_posI r)
    have hn : (0 : Rat) < ((r.num : Int) : Rat) := Rat.intCast_pos.mpr (num_posI hr)
    have e : ((r.num : Int) : Rat) = r * ((r.den : Int) : Rat) := by
      have h := Rat.num_divInt_den r
      rw [Rat.divInt_eq_div] at h
      have : ((r.den : Int) : Rat) ≠ 0 := by grind
      grind
    have e0 : one ((w, r) :: L) (some x) = stp (w, r) (one L (some x)) := rfl
    have em : mx ((w, r) :: L) = mul (mp (w, r)) (mx L) := rfl
    rw [e0, h1, em]
    generalize mx L = M at *
    obtain ⟨a, b, c, d⟩ := M
    simp only at h3 h4
    cases w with
    | true =>
      refine ⟨y + r, rfl, by grind, ?_, ?_⟩
      · simp only [mp, mul, if_true, Rat.intCast_add, Rat.intCast_mul, Int.zero_mul, Int.zero_add, Int.add_zero]
        rw [e]; grind
      · simp only [mp, mul, if_true, Rat.intCast_add, Rat.intCast_mul, Int.zero_mul, Int.zero_add, Int.add_zero]
        have := Rat.mul_pos hq h4
        grind
    | false =>
      have hyr : 0 < y + r := by grind
      refine ⟨y * r / (y + r), rfl, (par_lt h2 hr).2, ?_, ?_⟩
      · simp only [mp, mul, if_false, Bool.false_eq_true, Rat.intCast_add, Rat.intCast_mul, Int.zero_mul, Int.zero_add, Int.add_zero]
        rw [e]
        have k : y * r / (y + r) * (y + r) = y * r := by grind
        generalize y * r / (y + r) = z at *
        generalize ((r.den : Int) : Rat) = q at *
        have k2 : ((c : Rat) * x + d) * z * (y + r) = (c * x + d) * y * r := by grind
        have k3 : (q * a + r * q * c) * x + (q * b + r * q * d) = q * ((c * x + d) * (y + r)) := by grind
        rw [k3]; grind
      · simp only [mp, mul, if_false, Bool.false_eq_true, Rat.intCast_add, Rat.intCast_mul, Int.zero_mul, Int.zero_add, Int.add_zero]
        rw [e]
        generalize ((r.den : Int) : Rat) = q at *
        have k3 : (q * a + r * q * c) * x + (q * b + r * q * d) = q * ((c * x + d) * (y + r)) := by grind
        rw [k3]
        exact Rat.mul_pos hq (Rat.mul_pos h4 hyr)
/-! sizes -/
structure Bd4 (n : Nat) (M : Mx) : Prop where
  a : Bd n M.a
  b : Bd n M.b
  c : Bd n M.c
  d : Bd n M.d
theorem bd0 (n : Nat) : Bd n 0 := by unfold Bd; exact Nat.pow_pos (by decide)
theorem mx_bd : ∀ {L : List Part}, okL L → Bd4 (1 + 4 * L.length) (mx L)
  | [], _ => ⟨by decide, by decide, by decide, by decide⟩
  | p :: L, hL => by
    obtain ⟨h1, h2, h3, h4⟩ := mx_bd (L := L) fun q hq => hL q (List.mem_cons_of_mem _ hq)
    have hs := (hL p (List.mem_cons_self ..)).2
    have hn : Bd 3 p.2.num := hs.1
    have hq : Bd 3 (p.2.den : Int) := den_lt hs
    have e : 1 + 4 * (p :: L).length = 3 + (1 + 4 * L.length) + 1 := by rw [List.length_cons]; omega
    rw [e]
    show Bd4 _ (mul (mp p) (mx L))
    have z := bd0 3
    unfold mp
    split
    · exact ⟨(hq.mul h1).add (hn.mul h3), (hq.mul h2).add (hn.mul h4), (z.mul h1).add (hq.mul h3), (z.mul h2).add (hq.mul h4)⟩
    · exact ⟨(hn.mul h1).add (z.mul h3), (hn.mul h2).add (z.mul h4), (hq.mul h1).add (hn.mul h3), (hq.mul h2).add (hn.mul h4)⟩
theorem dn_pos : ∀ (L : List Part), 0 < dn L
  | [] => by decide
  | p :: L => Int.mul_pos (den_posI p.2) (dn_pos L)
theorem dn_bd : ∀ {L : List Part}, okL L → Bd (1 + 3 * L.length) (dn L)
  | [], _ => by decide
  | p :: L, hL => by
    have h := dn_bd (L := L) fun q hq => hL q (List.mem_cons_of_mem _ hq)
    have hq : Bd 3 (p.2.den : Int) := den_lt (hL p (List.mem_cons_self ..)).2
    have e : 1 + 3 * (p :: L).length = 3 + (1 + 3 * L.length) := by rw [List.length_cons]; omega
    rw [e]
    exact hq.mul h
theorem dn_app (L N : List Part) : dn (L ++ N) = dn L * dn N := by
  induction L with
  | nil => show dn N = 1 * dn N; omega
  | cons p L ih =>
    show (p.2.den : Int) * dn (L ++ N) = (p.2.den : Int) * dn L * dn N
    rw [ih, Int.mul_assoc]
/-! ### the root -/
theorem g3_eq (a b c : Int) : gcdL [a, b, c] 0 = Nat.gcd (Nat.gcd a.natAbs b.natAbs) c.natAbs := by
  simp [gcdL, Int.gcd]
def g3 (a b c : Int) : Nat := gcdL [a, b, c] 0
theorem g3_mul (k a b c : Int) : g3 (k * a) (k * b) (k * c) = k.natAbs * g3 a b c := by
  unfold g3
  rw [g3_eq, g3_eq, Int.natAbs_mul, Int.natAbs_mul, Int.natAbs_mul, Nat.gcd_mul_left, Nat.gcd_mul_left]
theorem g3_dvd (a b c : Int) : (g3 a b c : Int) ∣ a ∧ (g3 a b c : Int) ∣ b ∧ (g3 a b c : Int) ∣ c := by
  unfold g3
  rw [g3_eq]
  have h1 : Nat.gcd (Nat.gcd a.natAbs b.natAbs) c.natAbs ∣ Nat.gcd a.natAbs b.natAbs := Nat.gcd_dvd_left ..
  exact ⟨Int.ofNat_dvd_left.mpr (Nat.dvd_trans h1 (Nat.gcd_dvd_left ..)), Int.ofNat_dvd_left.mpr (Nat.dvd_trans h1 (Nat.gcd_dvd_right ..)), Int.ofNat_dvd_left.mpr (Nat.gcd_dvd_right ..)⟩
theorem g3_pos {a b c : Int} (h : a ≠ 0) : 0 < g3 a b c := by
  rcases Nat.eq_zero_or_pos (g3 a b c) with z | z
  · exfalso
    have := (g3_dvd a b c).1
    rw [z] at this
    exact h (Int.zero_dvd.mp this)
  · exact z
/-- in lowest terms -/
def prim (a b c : Int) : Rt := ⟨a / g3 a b c, b / g3 a b c, c / g3 a b c⟩
theorem prim_mul {k a b c : Int} (hk : 0 < k) (ha : a ≠ 0) : prim (k * a) (k * b) (k * c) = prim a b c := by
  have hk2 : ((k.natAbs : Nat) : Int) = k := by omega
  have e : ((g3 (k * a) (k * b) (k * c) : Nat) : Int) = k * g3 a b c := by rw [g3_mul, Int.natCast_mul, hk2]
  simp only [prim, e, Rt.mk.injEq]
  exact ⟨Int.mul_ediv_mul_of_pos _ _ hk, Int.mul_ediv_mul_of_pos _ _ hk, Int.mul_ediv_mul_of_pos _ _ hk⟩
theorem prim_eq {p q a b c a' b' c' : Int} (hp : 0 < p) (hq : 0 < q) (ha : a ≠ 0) (ha' : a' ≠ 0) (h1 : q * a' = p * a) (h2 : q * b' = p * b) (h3 : q * c' = p * c) : prim a' b' c' = prim a b c := by
  rw [← prim_mul (k := q) hq ha', ← prim_mul (k := p) hp ha, h1, h2, h3]
theorem prim_spec {a b c : Int} (ha : 0 < a) (hc : c < 0) : ∃ g : Int, 0 < g ∧ a = g * (prim a b c).a ∧ b = g * (prim a b c).b ∧ c = g * (prim a b c).c ∧ 1 ≤ (prim a b c).a ∧ (prim a b c).c ≤ -1 ∧ gcdL [(prim a b c).a, (prim a b c).b, (prim a b c).c] 0 = 1 := by
  have g0 := g3_pos (b := b) (c := c) (show a ≠ 0 by omega)
  obtain ⟨d1, d2, d3⟩ := g3_dvd a b c
  have e1 := (Int.mul_ediv_cancel' d1).symm
  have e2 := (Int.mul_ediv_cancel' d2).symm
  have e3 := (Int.mul_ediv_cancel' d3).symm
  refine ⟨g3 a b c, by omega, e1, e2, e3, ?_, ?_, ?_⟩
  · show 1 ≤ a / (g3 a b c : Int)
    have := Int.ediv_pos_of_pos_of_dvd ha (by omega) d1
    omega
  · show c / (g3 a b c : Int) ≤ -1
    have := Int.ediv_neg_of_neg_of_pos hc (show (0 : Int) < g3 a b c by omega)
    omega
  · have h := g3_mul (g3 a b c) (a / (g3 a b c : Int)) (b / (g3 a b c : Int)) (c / (g3 a b c : Int))
    rw [← e1, ← e2, ← e3, Int.natAbs_natCast] at h
    have h2 : g3 a b c * 1 = g3 a b c * g3 (a / (g3 a b c : Int)) (b / (g3 a b c : Int)) (c / (g3 a b c : Int)) := by rw [Nat.mul_one]; exact h
    exact (Nat.eq_of_mul_eq_mul_left g0 h2).symm
theorem prim_bd {n : Nat} {a b c : Int} (ha : Bd n a) (hb : Bd n b) (hc : Bd n c) : Bd n (prim a b c).a ∧ Bd n (prim a b c).b ∧ Bd n (prim a b c).c := by
  obtain ⟨d1, d2, d3⟩ := g3_dvd a b c
  refine ⟨?_, ?_, ?_⟩
  · show Bd n (a / _); unfold Bd; rw [Int.natAbs_ediv_of_dvd d1]; exact Nat.lt_of_le_of_lt (Nat.div_le_self _ _) ha
  · show Bd n (b / _); unfold Bd; rw [Int.natAbs_ediv_of_dvd d2]; exact Nat.lt_of_le_of_lt (Nat.div_le_self _ _) hb
  · show Bd n (c / _); unfold Bd; rw [Int.natAbs_ediv_of_dvd d3]; exact Nat.lt_of_le_of_lt (Nat.div_le_self _ _) hc
/-- the root of a ladder -/
def rt (L : List Part) : Rt := prim (mx L).c ((mx L).d - (mx L).a) (0 - (mx L).b)
structure Both (L : List Part) : Prop where
  ok : okL L
  row : ∃ p ∈ L, p.1 = true
  bes : ∃ p ∈ L, p.1 = false
theorem rt_spec {L : List Part} (h : Both L) : ∃ g : Int, 0 < g ∧ (mx L).c = g * (rt L).a ∧ (mx L).d - (mx L).a = g * (rt L).b ∧ 0 - (mx L).b = g * (rt L).c ∧ 1 ≤ (rt L).a ∧ (rt L).c ≤ -1 ∧ gcdL [(rt L).a, (rt L).b, (rt L).c] 0 = 1 :=
  prim_spec (mx_c h.ok h.bes) (by have := mx_b h.ok h.row; omega)
/-- its value is the sign of how much less is seen ahead -/
theorem rt_sign {L : List Part} (h : Both L) {x y : Rat} (hx : 0 ≤ x) (hy : one L (some x) = some y) : ∃ k : Rat, 0 < k ∧ fx (rt L) x = k * (x - y) := by
  obtain ⟨g, g0, e1, e2, e3, _, _, _⟩ := rt_spec h
  obtain ⟨y', h1, h2, h3, h4⟩ := one_mx h.ok hx
  rw [hy] at h1
  cases h1
  have g0' : (0 : Rat) < (g : Rat) := Rat.intCast_pos.mpr g0
  have f1 : ((mx L).c : Rat) = g * (rt L).a := by rw [e1, Rat.intCast_mul]
  have f2 : ((mx L).d : Rat) - (mx L).a = g * (rt L).b := by rw [← Rat.intCast_sub, e2, Rat.intCast_mul]
  have f3 : -((mx L).b : Rat) = g * (rt L).c := by
    have : ((0 - (mx L).b : Int) : Rat) = -((mx L).b : Rat) := by rw [Rat.intCast_sub]; have : ((0 : Int) : Rat) = 0 := rfl; grind
    rw [← this, e3, Rat.intCast_mul]
  refine ⟨(((mx L).c : Rat) * x + (mx L).d) / g, ?_, ?_⟩
  · rw [Rat.div_def]; exact Rat.mul_pos h4 (Rat.inv_pos.mpr g0')
  · unfold fx
    have hg : (g : Rat) ≠ 0 := by grind
    have : (g : Rat) * ((rt L).a * x * x + (rt L).b * x + (rt L).c) = (((mx L).c : Rat) * x + (mx L).d) * (x - y) := by grind
    grind
/-- copied -/
theorem rt_twice {L : List Part} (h : Both L) : rt (L ++ L) = rt L := by
  unfold rt
  rw [mx_app]
  obtain ⟨h1, h2, h3, h4⟩ := mx_pos h.ok
  have hc := mx_c h.ok h.bes
  generalize mx L = M at *
  obtain ⟨a, b, c, d⟩ := M
  simp only at h1 h2 h3 h4 hc
  have e1 : (mul ⟨a, b, c, d⟩ ⟨a, b, c, d⟩).c = (a + d) * c := by simp only [mul]; grind
  have e2 : (mul ⟨a, b, c, d⟩ ⟨a, b, c, d⟩).d - (mul ⟨a, b, c, d⟩ ⟨a, b, c, d⟩).a = (a + d) * (d - a) := by simp only [mul]; grind
  have e3 : 0 - (mul ⟨a, b, c, d⟩ ⟨a, b, c, d⟩).b = (a + d) * (0 - b) := by simp only [mul]; grind
  rw [e1, e2, e3]
  exact prim_mul (by omega) (by omega)
/-- turned -/
def flipM (M : Mx) : Mx := ⟨M.d, M.c, M.b, M.a⟩
theorem flip_mul (M N : Mx) : flipM (mul M N) = mul (flipM M) (flipM N) := by
  simp only [flipM, mul, Mx.mk.injEq]
  refine ⟨?_, ?_, ?_, ?_⟩ <;> grind
theorem mp_dual {p : Part} (hp : 0 < p.2) : mp (dual p) = flipM (mp p) := by
  obtain ⟨w, r⟩ := p
  have h1 : (1 / r).num = r.den := by
    have hn := num_posI hp
    simp only at hn
    rw [div_divInt, show (1 : Rat).num = 1 from rfl, show (1 : Rat).den = 1 from rfl, Int.one_mul]
    have : ((1 : Nat) : Int) * r.num = r.num := by omega
    rw [this, divInt_num hn]
    have hg : Int.gcd (r.den : Int) r.num = 1 := by
      rw [Int.gcd_comm]; unfold Int.gcd; rw [Int.natAbs_natCast]; exact r.reduced
    rw [hg]; simp
  have h2 : (((1 / r).den : Nat) : Int) = r.num := by
    have hn := num_posI hp
    simp only at hn
    rw [div_divInt, show (1 : Rat).num = 1 from rfl, show (1 : Rat).den = 1 from rfl, Int.one_mul]
    have : ((1 : Nat) : Int) * r.num = r.num := by omega
    rw [this, divInt_den hn]
    have hg : Int.gcd (r.den : Int) r.num = 1 := by
      rw [Int.gcd_comm]; unfold Int.gcd; rw [Int.natAbs_natCast]; exact r.reduced
    rw [hg]; simp
  unfold mp dual flipM
  simp only [h1, h2]
  cases w <;> rfl
theorem mx_dual : ∀ {L : List Part}, okL L → mx (L.map dual) = flipM (mx L)
  | [], _ => rfl
  | p :: L, hL => by
    show mul (mp (dual p)) (mx (L.map dual)) = flipM (mul (mp p) (mx L))
    rw [mx_dual fun q hq => hL q (List.mem_cons_of_mem _ hq), mp_dual (hL p (List.mem_cons_self ..)).1, flip_mul]
theorem rt_dual {L : List Part} (h : Both L) : rt (L.map dual) = ⟨0 - (rt L).c, 0 - (rt L).b, 0 - (rt L).a⟩ := by
  obtain ⟨g, g0, e1, e2, e3, a1, c1, gg⟩ := rt_spec h
  have hb : (mx L).b = g * (0 - (rt L).c) := by rw [Int.mul_sub, ← e3]; omega
  have hd : (mx L).a - (mx L).d = g * (0 - (rt L).b) := by rw [Int.mul_sub, ← e2]; omega
  have hc : 0 - (mx L).c = g * (0 - (rt L).a) := by rw [Int.mul_sub, ← e1]; omega
  have hr : rt (L.map dual) = prim (mx L).b ((mx L).a - (mx L).d) (0 - (mx L).c) := by
    unfold rt; rw [mx_dual h.ok]; rfl
  have hgg : gcdL [(rt L).a, (rt L).b, (rt L).c] 0 = 1 := gg
  rw [hr, hb, hd, hc, prim_mul g0 (by omega)]
  generalize (rt L).a = A at *
  generalize (rt L).b = B at *
  generalize (rt L).c = C at *
  have e : g3 (0 - C) (0 - B) (0 - A) = 1 := by
    unfold g3
    rw [g3_eq] at hgg ⊢
    rw [Int.zero_sub, Int.zero_sub, Int.zero_sub, Int.natAbs_neg, Int.natAbs_neg, Int.natAbs_neg, Nat.gcd_comm (Nat.gcd C.natAbs B.natAbs), Nat.gcd_comm C.natAbs B.natAbs, ← Nat.gcd_assoc]
    exact hgg
  simp only [prim, e]
  simp
/-- a square that is a whole number times a square -/
theorem sq_of_sq {d v w : Int} (hv : v ≠ 0) (h : d * (v * v) = w * w) : ∃ q : Int, 0 ≤ q ∧ q * q = d := by
  have h1 : (v ^ 2 : Int) ∣ w ^ 2 := ⟨d, by rw [Int.pow_succ, Int.pow_succ, Int.pow_zero, Int.one_mul, Int.pow_succ, Int.pow_succ, Int.pow_zero, Int.one_mul, ← h, Int.mul_comm]⟩
  have h2 : v.natAbs ^ 2 ∣ w.natAbs ^ 2 := by
    rw [← Int.natAbs_pow, ← Int.natAbs_pow]
    exact Int.natAbs_dvd_natAbs.mpr h1
  have h3 : v.natAbs ∣ w.natAbs := (Nat.pow_dvd_pow_iff (by decide)).mp h2
  have h4 : v ∣ w := Int.natAbs_dvd_natAbs.mp h3
  obtain ⟨k, rfl⟩ := h4
  have h5 : d * (v * v) = (k * k) * (v * v) := by rw [h]; grind
  have h6 : d = k * k := Int.eq_of_mul_eq_mul_right (Int.mul_ne_zero hv hv) h5
  refine ⟨k.natAbs, by omega, ?_⟩
  rw [h6, ← Int.natAbs_mul_self' k]
/-! ### numbers u + v s, s s being d -/
abbrev Pr := Rat × Rat
/-- divided, as the law does it -/
def povr (x y : Pr) (d : Rat) : Pr :=
  ((x.1 * y.1 - d * (x.2 * y.2)) / (y.1 * y.1 - d * (y.2 * y.2)), (x.2 * y.1 - x.1 * y.2) / (y.1 * y.1 - d * (y.2 * y.2)))
def pstp (d : Rat) (p : Part) (x : Pr) : Pr := if p.1 then (x.1 + p.2, x.2) else povr (x.1 * p.2, x.2 * p.2) (x.1 + p.2, x.2) d
def pall (d : Rat) (L : List Part) (x : Pr) : Pr := L.foldr (pstp d) x
/-- y is the table's value at x -/
structure Val (M : Mx) (d : Rat) (x y : Pr) : Prop where
  re : ((M.c : Rat) * x.1 + M.d) * y.1 + (M.c : Rat) * x.2 * y.2 * d = M.a * x.1 + M.b
  im : ((M.c : Rat) * x.1 + M.d) * y.2 + (M.c : Rat) * x.2 * y.1 = M.a * x.2
def nrm (M : Mx) (d : Rat) (x : Pr) : Rat := ((M.c : Rat) * x.1 + M.d) * ((M.c : Rat) * x.1 + M.d) - (M.c : Rat) * x.2 * ((M.c : Rat) * x.2) * d
theorem den_num (r : Rat) : ((r.num : Int) : Rat) = r * ((r.den : Int) : Rat) ∧ (0 : Rat) < ((r.den : Int) : Rat) := by
  have hq : (0 : Rat) < ((r.den : Int) : Rat) := Rat.intCast_pos.mpr (den_posI r)
  have h := Rat.num_divInt_den r
  rw [Rat.divInt_eq_div] at h
  have : ((r.den : Int) : Rat) ≠ 0 := by grind
  exact ⟨by grind, hq⟩
theorem val_row {M : Mx} {d : Rat} {x y : Pr} {r : Rat} (h : Val M d x y) : Val (mul (mp (true, r)) M) d x (y.1 + r, y.2) := by
  obtain ⟨h1, h2⟩ := h
  obtain ⟨e, q0⟩ := den_num r
  obtain ⟨a, b, c, dd⟩ := M
  obtain ⟨u, v⟩ := x
  obtain ⟨y1, y2⟩ := y
  simp only at h1 h2
  constructor
  · simp only [mp, mul, if_true, Rat.intCast_add, Rat.intCast_mul, Int.zero_mul, Int.zero_add, Int.add_zero]
    rw [e]; grind
  · simp only [mp, mul, if_true, Rat.intCast_add, Rat.intCast_mul, Int.zero_mul, Int.zero_add, Int.add_zero]
    rw [e]; grind
/-- the next table's norm -/
theorem nrm_bes {M : Mx} {d : Rat} {x y : Pr} {r : Rat} (h : Val M d x y) : nrm (mul (mp (false, r)) M) d x = ((r.den : Int) : Rat) * ((r.den : Int) : Rat) * (nrm M d x * ((y.1 + r) * (y.1 + r) - d * (y.2 * y.2))) := by
  obtain ⟨h1, h2⟩ := h
  obtain ⟨e, q0⟩ := den_num r
  obtain ⟨a, b, c, dd⟩ := M
  obtain ⟨u, v⟩ := x
  obtain ⟨y1, y2⟩ := y
  simp only at h1 h2
  simp only [nrm, mp, mul, if_false, Bool.false_eq_true, Rat.intCast_add, Rat.intCast_mul, Int.zero_mul, Int.zero_add, Int.add_zero]
  rw [e]
  generalize ((r.den : Int) : Rat) = q at *
  have k1 : (q * a + r * q * c) * u + (q * b + r * q * dd) = q * ((c * u + dd) * (y1 + r) + c * v * y2 * d) := by grind
  have k2 : (q * a + r * q * c) * v = q * ((c * u + dd) * y2 + c * v * (y1 + r)) := by grind
  rw [k1, k2]
  generalize (c : Rat) * u + dd = P
  generalize (c : Rat) * v = Q
  grind
theorem val_bes {M : Mx} {d : Rat} {x y : Pr} {r : Rat} (h : Val M d x y) (hn : (y.1 + r) * (y.1 + r) - d * (y.2 * y.2) ≠ 0) : Val (mul (mp (false, r)) M) d x (povr (y.1 * r, y.2 * r) (y.1 + r, y.2) d) := by
  obtain ⟨h1, h2⟩ := h
  obtain ⟨e, q0⟩ := den_num r
  obtain ⟨a, b, c, dd⟩ := M
  obtain ⟨u, v⟩ := x
  obtain ⟨y1, y2⟩ := y
  simp only at h1 h2 hn
  have w1 : (y1 + r) * (povr (y1 * r, y2 * r) (y1 + r, y2) d).1 + y2 * (povr (y1 * r, y2 * r) (y1 + r, y2) d).2 * d = y1 * r := by
    simp only [povr]; grind
  have w2 : (y1 + r) * (povr (y1 * r, y2 * r) (y1 + r, y2) d).2 + y2 * (povr (y1 * r, y2 * r) (y1 + r, y2) d).1 = y2 * r := by
    simp only [povr]; grind
  generalize povr (y1 * r, y2 * r) (y1 + r, y2) d = z at *
  obtain ⟨z1, z2⟩ := z
  simp only at w1 w2
  clear hn
  constructor
  · simp only [mp, mul, if_false, Bool.false_eq_true, Rat.intCast_add, Rat.intCast_mul, Int.zero_mul, Int.zero_add, Int.add_zero]
    rw [e]
    generalize ((r.den : Int) : Rat) = q at *
    have k1 : (q * a + r * q * c) * u + (q * b + r * q * dd) = q * ((c * u + dd) * (y1 + r) + c * v * y2 * d) := by grind
    have k2 : (q * a + r * q * c) * v = q * ((c * u + dd) * y2 + c * v * (y1 + r)) := by grind
    rw [k1, k2]
    have k3 : r * q * a * u + r * q * b = q * ((c * u + dd) * (y1 * r) + c * v * (y2 * r) * d) := by grind
    rw [k3]
    generalize (c : Rat) * u + dd = P
    generalize (c : Rat) * v = Q
    have k4 : q * (P * (y1 + r) + Q * y2 * d) * z1 + q * (P * y2 + Q * (y1 + r)) * z2 * d = q * (P * ((y1 + r) * z1 + y2 * z2 * d) + Q * ((y1 + r) * z2 + y2 * z1) * d) := by grind
    rw [k4, w1, w2]
  · simp only [mp, mul, if_false, Bool.false_eq_true, Rat.intCast_add, Rat.intCast_mul, Int.zero_mul, Int.zero_add, Int.add_zero]
    rw [e]
    generalize ((r.den : Int) : Rat) = q at *
    have k1 : (q * a + r * q * c) * u + (q * b + r * q * dd) = q * ((c * u + dd) * (y1 + r) + c * v * y2 * d) := by grind
    have k2 : (q * a + r * q * c) * v = q * ((c * u + dd) * y2 + c * v * (y1 + r)) := by grind
    rw [k1, k2]
    have k3 : r * q * a * v = q * ((c * u + dd) * (y2 * r) + c * v * (y1 * r)) := by grind
    rw [k3]
    generalize (c : Rat) * u + dd = P
    generalize (c : Rat) * v = Q
    have k4 : q * (P * (y1 + r) + Q * y2 * d) * z2 + q * (P * y2 + Q * (y1 + r)) * z1 = q * (P * ((y1 + r) * z2 + y2 * z1) + Q * ((y1 + r) * z1 + y2 * z2 * d)) := by grind
    rw [k4, w1, w2]
theorem val_uniq {M : Mx} {d : Rat} {x y z : Pr} (h : Val M d x y) (g : Val M d x z) (hn : nrm M d x ≠ 0) : y = z := by
  obtain ⟨h1, h2⟩ := h
  obtain ⟨g1, g2⟩ := g
  obtain ⟨y1, y2⟩ := y
  obtain ⟨z1, z2⟩ := z
  unfold nrm at hn
  simp only at h1 h2 g1 g2
  generalize (M.c : Rat) * x.1 + M.d = P at *
  generalize (M.c : Rat) * x.2 = Q at *
  have e1 : (P * P - Q * Q * d) * (y1 - z1) = 0 := by grind
  have e2 : (P * P - Q * Q * d) * (y2 - z2) = 0 := by grind
  rcases Rat.mul_eq_zero.mp e1 with w | w
  · exact absurd w hn
  · rcases Rat.mul_eq_zero.mp e2 with w2 | w2
    · exact absurd w2 hn
    · rw [show y1 = z1 by grind, show y2 = z2 by grind]
/-! the root of the ladder is such a number -/
def ru (r : Rt) : Pr := (Rat.divInt (0 - r.b) (2 * r.a), Rat.divInt 1 (2 * r.a))
def dsc (r : Rt) : Int := r.b * r.b - 4 * r.a * r.c
theorem ru_eq {r : Rt} (ha : 1 ≤ r.a) : (2 * (r.a : Rat)) * (ru r).1 = -r.b ∧ (2 * (r.a : Rat)) * (ru r).2 = 1 ∧ (0 : Rat) < r.a := by
  have h : (0 : Rat) < r.a := Rat.intCast_pos.mpr (by omega)
  have h2 : ((2 * r.a : Int) : Rat) = 2 * (r.a : Rat) := by rw [Rat.intCast_mul]; rfl
  have h0 : ((0 - r.b : Int) : Rat) = -(r.b : Rat) := by rw [Rat.intCast_sub]; have : ((0 : Int) : Rat) = 0 := rfl; grind
  refine ⟨?_, ?_, h⟩
  · unfold ru; simp only [Rat.divInt_eq_div, h2, h0]; grind
  · unfold ru; simp only [Rat.divInt_eq_div, h2]; have : ((1 : Int) : Rat) = 1 := rfl; grind
theorem val_root {L : List Part} (h : Both L) : Val (mx L) (dsc (rt L)) (ru (rt L)) (ru (rt L)) := by
  obtain ⟨g, g0, e1, e2, e3, a1, c1, _⟩ := rt_spec h
  obtain ⟨k1, k2, k3⟩ := ru_eq a1
  have f1 : ((mx L).c : Rat) = g * (rt L).a := by rw [e1, Rat.intCast_mul]
  have f2 : ((mx L).d : Rat) - (mx L).a = g * (rt L).b := by rw [← Rat.intCast_sub, e2, Rat.intCast_mul]
  have f3 : -((mx L).b : Rat) = g * (rt L).c := by
    have : ((0 - (mx L).b : Int) : Rat) = -((mx L).b : Rat) := by rw [Rat.intCast_sub]; have : ((0 : Int) : Rat) = 0 := rfl; grind
    rw [← this, e3, Rat.intCast_mul]
  have fd : ((dsc (rt L) : Int) : Rat) = (rt L).b * (rt L).b - 4 * (rt L).a * (rt L).c := by
    unfold dsc; rw [Rat.intCast_sub, Rat.intCast_mul, Rat.intCast_mul, Rat.intCast_mul]; rfl
  generalize (rt L).a = A at *
  generalize (rt L).b = B at *
  generalize (rt L).c = C at *
  generalize ru (rt L) = x at *
  obtain ⟨u, v⟩ := x
  simp only at k1 k2
  generalize mx L = M at *
  obtain ⟨a, b, c, d⟩ := M
  simp only at f1 f2 f3
  constructor
  · simp only
    rw [fd, f1]
    have : (a : Rat) = d - g * B := by grind
    rw [this]
    have : (b : Rat) = -(g * C) := by grind
    rw [this]
    grind
  · simp only
    rw [f1]
    have : (a : Rat) = d - g * B := by grind
    rw [this]
    grind
/-- no norm is nothing, if the part below is no square -/
theorem nrm_ne {r : Rt} (ha : 1 ≤ r.a) (hsq : ¬ ∃ q : Int, 0 ≤ q ∧ q * q = dsc r) {M : Mx} (hM : M.c ≠ 0 ∨ M.d ≠ 0) : nrm M (dsc r) (ru r) ≠ 0 := by
  intro h
  obtain ⟨k1, k2, k3⟩ := ru_eq ha
  have e : (2 * r.a * M.d - M.c * r.b) * (2 * r.a * M.d - M.c * r.b) = dsc r * (M.c * M.c) := by
    have e1 : (((2 * r.a * M.d - M.c * r.b) * (2 * r.a * M.d - M.c * r.b) : Int) : Rat) = ((dsc r * (M.c * M.c) : Int) : Rat) := by
      simp only [Rat.intCast_mul, Rat.intCast_sub]
      have : ((2 : Int) : Rat) = 2 := rfl
      rw [this]
      unfold nrm at h
      generalize ((dsc r : Int) : Rat) = D at *
      generalize ru r = x at *
      obtain ⟨u, v⟩ := x
      simp only at h k1 k2
      grind
    exact Rat.intCast_inj.mp e1
  by_cases hc : M.c = 0
  · rw [hc] at e
    have : 2 * r.a * M.d = 0 := by
      have : (2 * r.a * M.d) * (2 * r.a * M.d) = 0 := by grind
      rcases Int.mul_eq_zero.mp this with z | z <;> exact z
    rcases Int.mul_eq_zero.mp this with z | z
    · omega
    · rcases hM with y | y
      · exact y hc
      · exact y z
  · exact hsq (sq_of_sq hc e.symm)
theorem pall_val {L : List Part} (hL : okL L) {r : Rt} (ha : 1 ≤ r.a) (hsq : ¬ ∃ q : Int, 0 ≤ q ∧ q * q = dsc r) : Val (mx L) (dsc r) (ru r) (pall (dsc r) L (ru r)) := by
  induction L with
  | nil =>
    constructor
    · show ((0 : Int) * _ + ((1 : Int) : Rat)) * _ + ((0 : Int) : Rat) * _ * _ * _ = ((1 : Int) : Rat) * _ + ((0 : Int) : Rat)
      have z0 : ((0 : Int) : Rat) = 0 := rfl
      have z1 : ((1 : Int) : Rat) = 1 := rfl
      rw [z0, z1]
      show (0 * _ + 1) * (ru r).1 + 0 * _ * _ * _ = 1 * (ru r).1 + 0
      grind
    · show ((0 : Int) * _ + ((1 : Int) : Rat)) * _ + ((0 : Int) : Rat) * _ * _ = ((1 : Int) : Rat) * _
      have z0 : ((0 : Int) : Rat) = 0 := rfl
      have z1 : ((1 : Int) : Rat) = 1 := rfl
      rw [z0, z1]
      show (0 * _ + 1) * (ru r).2 + 0 * _ * _ = 1 * (ru r).2
      grind
  | cons p L ih =>
    have hL' : okL L := fun q hq => hL q (List.mem_cons_of_mem _ hq)
    have h := ih hL'
    have hn2 : nrm (mx (p :: L)) (dsc r) (ru r) ≠ 0 := nrm_ne ha hsq (.inr (by have := (mx_pos hL).d; omega))
    obtain ⟨w, x⟩ := p
    show Val (mul (mp (w, x)) (mx L)) _ _ (pstp _ (w, x) (pall (dsc r) L (ru r)))
    cases w with
    | true => exact val_row h
    | false =>
      refine val_bes h fun z => hn2 ?_
      show nrm (mul (mp (false, x)) (mx L)) _ _ = 0
      rw [nrm_bes h, z, Rat.mul_zero, Rat.mul_zero]
theorem pall_root {L : List Part} (h : Both L) (hsq : ¬ ∃ q : Int, 0 ≤ q ∧ q * q = dsc (rt L)) : pall (dsc (rt L)) L (ru (rt L)) = ru (rt L) := by
  obtain ⟨_, _, _, _, _, a1, _, _⟩ := rt_spec h
  exact val_uniq (pall_val h.ok a1 hsq) (val_root h) (nrm_ne a1 hsq (.inl (by have := mx_c h.ok h.bes; omega)))
/-! ### the program's tables -/
def mxD (M : Mx) (d : Int) : D := .tup [fr (Rat.divInt M.a d), fr (Rat.divInt M.b d), fr (Rat.divInt M.c d), fr (Rat.divInt M.d d)]
theorem addD_tup {xs ys : List D} (s : Sto) (h : xs ≠ []) (hl : xs.length + ys.length ≤ 100000) : addD (.tup xs) (.tup ys) s = .ok (.tup (xs ++ ys)) s := by
  simp only [addD, if_pos (show xs ≠ [] ∧ xs.length + ys.length ≤ 100000 from ⟨h, hl⟩)]
theorem product_ok {a b c d e f g h : Rat} {N K : Nat} (ha : Sm N a) (hb : Sm N b) (hc : Sm N c) (hd : Sm N d) (he : Sm K e) (hf : Sm K f) (hg : Sm K g) (hh : Sm K h) (hN : 0 < N) (hK : 0 < K) (h9 : N + K ≤ 4000) (s : Sto) :
    r_product [.tup [fr a, fr b, fr c, fr d], .tup [fr e, fr f, fr g, fr h]] s = .ok (.tup [fr (a * e + b * g), fr (a * f + b * h), fr (c * e + d * g), fr (c * f + d * h)]) s := by
  have t := fun {x y : Rat} (hx : Sm N x) (hy : Sm K y) => times_ok s hx hy hN hK (by omega)
  have p := fun {x y : Rat} (hx : Sm (N + K) x) (hy : Sm (N + K) y) => plus_ok s hx hy (by omega) (by omega) (by omega)
  have t1 := t ha he; have t2 := t hb hg; have t3 := t ha hf; have t4 := t hb hh; have t5 := t hc he; have t6 := t hd hg; have t7 := t hc hf; have t8 := t hd hh
  have p1 := p (times_sm ha he) (times_sm hb hg); have p2 := p (times_sm ha hf) (times_sm hb hh); have p3 := p (times_sm hc he) (times_sm hd hg); have p4 := p (times_sm hc hf) (times_sm hd hh)
  have z2 : (2 : Nat) ≤ 100000 := by decide
  have ad : ∀ x y z w : D, addD (.tup [x, y]) (.tup [z, w]) s = .ok (.tup [x, y, z, w]) s := fun x y z w => addD_tup s (by simp) (by simp only [List.length_cons, List.length_nil]; omega)
  unfold r_product
  generalize fr (a * e + b * g) = o1 at *; generalize fr (a * f + b * h) = o2 at *; generalize fr (c * e + d * g) = o3 at *; generalize fr (c * f + d * h) = o4 at *
  generalize fr (a * e) = q1 at *; generalize fr (b * g) = q2 at *; generalize fr (a * f) = q3 at *; generalize fr (b * h) = q4 at *
  generalize fr (c * e) = q5 at *; generalize fr (d * g) = q6 at *; generalize fr (c * f) = q7 at *; generalize fr (d * h) = q8 at *
  generalize fr a = fa at *; generalize fr b = fb at *; generalize fr c = fc at *; generalize fr d = fd at *
  generalize fr e = fe at *; generalize fr f = ff at *; generalize fr g = fg at *; generalize fr h = fh at *
  repeat (first | walk_at "sem1" | simp only [mgTup, t1, t2, t3, t4, t5, t6, t7, t8, p1, p2, p3, p4, z2, ad])
theorem divInt_add' {p q d : Int} (hd : d ≠ 0) : Rat.divInt p d + Rat.divInt q d = Rat.divInt (p + q) d := by
  have : ((d : Int) : Rat) ≠ 0 := fun z => hd (Rat.intCast_inj.mp z)
  rw [Rat.divInt_eq_div, Rat.divInt_eq_div, Rat.divInt_eq_div, Rat.intCast_add]; grind
theorem dq (r : Rat) {p d : Int} (hd : d ≠ 0) : Rat.divInt p d * r = Rat.divInt (p * r.num) (d * r.den) ∧ Rat.divInt p d * 1 = Rat.divInt (p * r.den) (d * r.den) ∧ Rat.divInt p d * 0 = Rat.divInt (p * 0) (d * r.den) := by
  have h1 : ((d : Int) : Rat) ≠ 0 := fun z => hd (Rat.intCast_inj.mp z)
  obtain ⟨e, q0⟩ := den_num r
  refine ⟨?_, ?_, ?_⟩ <;> simp only [Rat.divInt_eq_div, Rat.intCast_mul]
  · rw [e]; grind
  · grind
  · have : ((0 : Int) : Rat) = 0 := rfl
    rw [this]; grind
/-- one more part -/
theorem mx_step (M : Mx) {d : Int} (hd : d ≠ 0) (p : Part) :
    let E := if p.1 then ((1 : Rat), p.2, (0 : Rat), (1 : Rat)) else (p.2, 0, 1, p.2)
    (Rat.divInt M.a d * E.1 + Rat.divInt M.b d * E.2.2.1 = Rat.divInt (mul M (mp p)).a (d * p.2.den)) ∧ (Rat.divInt M.a d * E.2.1 + Rat.divInt M.b d * E.2.2.2 = Rat.divInt (mul M (mp p)).b (d * p.2.den)) ∧
    (Rat.divInt M.c d * E.1 + Rat.divInt M.d d * E.2.2.1 = Rat.divInt (mul M (mp p)).c (d * p.2.den)) ∧ (Rat.divInt M.c d * E.2.1 + Rat.divInt M.d d * E.2.2.2 = Rat.divInt (mul M (mp p)).d (d * p.2.den)) := by
  obtain ⟨w, r⟩ := p
  have hn : d * (r.den : Int) ≠ 0 := Int.mul_ne_zero hd (den_ne r)
  have q := fun x => dq r (p := x) hd
  cases w
  · simp only [if_false, Bool.false_eq_true, mp, mul]
    refine ⟨?_, ?_, ?_, ?_⟩
    · rw [(q M.a).1, (q M.b).2.1, divInt_add' hn]
    · rw [(q M.a).2.2, (q M.b).1, divInt_add' hn]
    · rw [(q M.c).1, (q M.d).2.1, divInt_add' hn]
    · rw [(q M.c).2.2, (q M.d).1, divInt_add' hn]
  · simp only [if_true, mp, mul]
    refine ⟨?_, ?_, ?_, ?_⟩
    · rw [(q M.a).2.1, (q M.b).2.2, divInt_add' hn]
    · rw [(q M.a).1, (q M.b).2.1, divInt_add' hn]
    · rw [(q M.c).2.1, (q M.d).2.2, divInt_add' hn]
    · rw [(q M.c).1, (q M.d).2.1, divInt_add' hn]
theorem sm_zero (N : Nat) (h : 0 < N) : Sm N 0 := Sm.mono (M := 1) ⟨by decide, by decide⟩ h
theorem sm_oneN (N : Nat) (h : 0 < N) : Sm N 1 := Sm.mono (M := 1) ⟨by decide, by decide⟩ h
/-- the tables of the beginnings -/
theorem eb_loop {s : Sto} (x0 : Option D) : ∀ (Q P : List Part) (x2 x3 : Option D) (rest : List (Option D)), okL (P ++ Q) → (P ++ Q).length ≤ 20 → ∃ y2 y3,
    forL (mgTup 2 (mgCons (mgName 2) (mgCons (mgName 3) mgNil))) b_endless_by_2 (Q.map partD) (x0 :: some (mxD (mx P) (dn P)) :: x2 :: x3 :: rest) s = .nx (x0 :: some (mxD (mx (P ++ Q)) (dn (P ++ Q))) :: y2 :: y3 :: rest) s
  | [], P, x2, x3, rest, _, _ => ⟨x2, x3, by rw [List.append_nil]; rfl⟩
  | p :: Q, P, x2, x3, rest, hok, hlen => by
    have e0 : P ++ p :: Q = (P ++ [p]) ++ Q := by rw [List.append_assoc]; rfl
    obtain ⟨y2, y3, h⟩ := eb_loop (s := s) x0 Q (P ++ [p]) (some (wordD p.1)) (some (fr p.2)) rest (e0 ▸ hok) (e0 ▸ hlen)
    refine ⟨y2, y3, ?_⟩
    have hP : okL P := fun q hq => hok q (List.mem_append_left _ hq)
    have hp := hok p (List.mem_append_right _ (List.mem_cons_self ..))
    have hl : P.length ≤ 20 := by rw [List.length_append] at hlen; omega
    have hd0 := dn_pos P
    have hb := mx_bd hP
    have hdb := dn_bd hP
    have ex : ∀ {x : Int}, Bd (1 + 4 * P.length) x → Sm 100 (Rat.divInt x (dn P)) := fun hx => divInt_sm (hx.mono (by omega)) (hdb.mono (by omega)) (by omega)
    have hmx : mx (P ++ [p]) = mul (mx P) (mp p) := by rw [mx_app]; show mul (mx P) (mul (mp p) ⟨1, 0, 0, 1⟩) = _; rw [mul_one3]
    have hdn : dn (P ++ [p]) = dn P * p.2.den := by rw [dn_app]; show dn P * ((p.2.den : Int) * 1) = _; rw [Int.mul_one]
    have hst := mx_step (mx P) (show dn P ≠ 0 by omega) p
    have s3 : Sm 100 p.2 := hp.2.mono (by decide)
    have o1 := sm_oneN 100 (by decide)
    have z1 := sm_zero 100 (by decide)
    have hw := word_row p.1 s
    have e1 : mgTup 2 (mgCons (mgName 2) (mgCons (mgName 3) mgNil)) (partD p) (x0 :: some (mxD (mx P) (dn P)) :: x2 :: x3 :: rest) s = .ok (x0 :: some (mxD (mx P) (dn P)) :: some (wordD p.1) :: some (fr p.2) :: rest) s := by
      simp only [mgTup, partD]
      generalize wordD p.1 = wd at *
      generalize fr p.2 = ff at *
      generalize mxD (mx P) (dn P) = m at *
      repeat (first | walk_at "sem1")
    have e2 : b_endless_by_2 (x0 :: some (mxD (mx P) (dn P)) :: some (wordD p.1) :: some (fr p.2) :: rest) s = .nx (x0 :: some (mxD (mx (P ++ [p])) (dn (P ++ [p]))) :: some (wordD p.1) :: some (fr p.2) :: rest) s := by
      rw [hmx, hdn]
      have z4 : (4 : Nat) ≤ 100000 := by decide
      obtain ⟨w, r⟩ := p
      cases w with
      | true =>
        simp only [if_true] at hst
        have hpr := product_ok (ex hb.a) (ex hb.b) (ex hb.c) (ex hb.d) o1 s3 z1 o1 (by decide) (by decide) (by decide) s
        rw [hst.1, hst.2.1, hst.2.2.1, hst.2.2.2] at hpr
        have hpr : r_product [mxD (mx P) (dn P), .tup [.tup [.int 1, .int 1], fr r, .tup [.int 0, .int 1], .tup [.int 1, .int 1]]] s = .ok (mxD (mul (mx P) (mp (true, r))) (dn P * r.den)) s := hpr
        unfold b_endless_by_2
        simp only at hw ⊢
        generalize mxD (mul (mx P) (mp (true, r))) (dn P * r.den) = m2 at *
        generalize mxD (mx P) (dn P) = m at *
        generalize wordD true = wd at *
        generalize fr r = f at *
        repeat (first | walk_at "sem1" | simp only [hw, hpr, z4])
      | false =>
        simp only [if_false, Bool.false_eq_true] at hst
        have hpr := product_ok (ex hb.a) (ex hb.b) (ex hb.c) (ex hb.d) s3 z1 o1 s3 (by decide) (by decide) (by decide) s
        rw [hst.1, hst.2.1, hst.2.2.1, hst.2.2.2] at hpr
        have hpr : r_product [mxD (mx P) (dn P), .tup [fr r, .tup [.int 0, .int 1], .tup [.int 1, .int 1], fr r]] s = .ok (mxD (mul (mx P) (mp (false, r))) (dn P * r.den)) s := hpr
        unfold b_endless_by_2
        simp only at hw ⊢
        generalize mxD (mul (mx P) (mp (false, r))) (dn P * r.den) = m2 at *
        generalize mxD (mx P) (dn P) = m at *
        generalize wordD false = wd at *
        generalize fr r = f at *
        repeat (first | walk_at "sem1" | simp only [hw, hpr, z4])
    simp only [List.map_cons, forL, e1, e2]
    rw [h, e0]
/-- three fractions as whole numbers -/
theorem whole3 {x : Rat} {k : Int} (hk : (x.den : Int) ∣ k) (hk0 : 0 < k) : ((x.num * (k / (x.den : Int)) : Int) : Rat) = k * x := by
  obtain ⟨m, rfl⟩ := hk
  obtain ⟨e, q0⟩ := den_num x
  have : (x.den : Int) * m / (x.den : Int) = m := Int.mul_ediv_cancel_left _ (den_ne x)
  rw [this, Rat.intCast_mul, Rat.intCast_mul, e]
  grind
theorem ebt_ok {M : Mx} {d : Int} {n : Nat} (hM : Bd4 n M) (hd : Bd n d) (hd0 : 0 < d) (hn0 : 0 < n) (hn : n ≤ 150) (hc : 0 < M.c) (hb : 0 < M.b) (x0 x2 x3 x4 x5 x6 x7 x8 x9 x10 x11 x12 x13 x14 x15 : Option D) (s : Sto) :
    t_endless_by_7 [x0, some (mxD M d), x2, x3, x4, x5, x6, x7, x8, x9, x10, x11, x12, x13, x14, x15] s = .rt (rootD (prim M.c (M.d - M.a) (0 - M.b))) s := by
  have hdn : d ≠ 0 := by omega
  have hd' : ((d : Int) : Rat) ≠ 0 := fun z => hdn (Rat.intCast_inj.mp z)
  have s1 : Sm n (Rat.divInt M.a d) := divInt_sm hM.a hd hdn
  have s2 : Sm n (Rat.divInt M.b d) := divInt_sm hM.b hd hdn
  have s3 : Sm n (Rat.divInt M.c d) := divInt_sm hM.c hd hdn
  have s4 : Sm n (Rat.divInt M.d d) := divInt_sm hM.d hd hdn
  have m1 := minus_ok s s4 s1 (by omega) (by omega) (by omega)
  have m2 := minus_ok s (sm_zero 1 (by decide)) s2 (by decide) (by omega) (by omega)
  have e1 : Rat.divInt M.d d - Rat.divInt M.a d = Rat.divInt (M.d - M.a) d := by
    simp only [Rat.divInt_eq_div, Rat.intCast_sub]; grind
  have e2 : 0 - Rat.divInt M.b d = Rat.divInt (0 - M.b) d := by
    simp only [Rat.divInt_eq_div, Rat.intCast_sub]
    have : ((0 : Int) : Rat) = 0 := rfl
    rw [this]; grind
  rw [e1] at m1
  rw [e2] at m2
  have s5 : Sm (n + 1) (Rat.divInt (M.d - M.a) d) := divInt_sm (hM.d.sub hM.a) (hd.mono (by omega)) hdn
  have s6 : Sm (n + 1) (Rat.divInt (0 - M.b) d) := divInt_sm ((bd0 n).sub hM.b) (hd.mono (by omega)) hdn
  -- the three
  generalize hx : Rat.divInt M.c d = x at *
  generalize hy : Rat.divInt (M.d - M.a) d = y at *
  generalize hz : Rat.divInt (0 - M.b) d = z at *
  have fx1 : (d : Rat) * x = M.c := by rw [← hx, Rat.divInt_eq_div]; grind
  have fy1 : (d : Rat) * y = ((M.d - M.a : Int) : Rat) := by rw [← hy, Rat.divInt_eq_div]; grind
  have fz1 : (d : Rat) * z = ((0 - M.b : Int) : Rat) := by rw [← hz, Rat.divInt_eq_div]; grind
  have bx : Bd n (x.den : Int) := den_lt s3
  have by' : Bd (n + 1) (y.den : Int) := den_lt s5
  have bz : Bd (n + 1) (z.den : Int) := den_lt s6
  have k1 := mulB s (show Bd 1 1 by decide) bx (by decide) (by omega) (by omega)
  have k2 := mulB s ((show Bd 1 1 by decide).mul bx) by' (by omega) (by omega) (by omega)
  have k3 := mulB s (((show Bd 1 1 by decide).mul bx).mul by') bz (by omega) (by omega) (by omega)
  have hkb : Bd (1 + n + (n + 1) + (n + 1)) (1 * (x.den : Int) * y.den * z.den) := (((show Bd 1 1 by decide).mul bx).mul by').mul bz
  have hk0 : 0 < 1 * (x.den : Int) * y.den * z.den := Int.mul_pos (Int.mul_pos (by have := den_posI x; omega) (den_posI y)) (den_posI z)
  have v1 : (x.den : Int) ∣ 1 * (x.den : Int) * y.den * z.den := ⟨y.den * z.den, by grind⟩
  have v2 : (y.den : Int) ∣ 1 * (x.den : Int) * y.den * z.den := ⟨x.den * z.den, by grind⟩
  have v3 : (z.den : Int) ∣ 1 * (x.den : Int) * y.den * z.den := ⟨x.den * y.den, by grind⟩
  generalize hk : 1 * (x.den : Int) * y.den * z.den = k at *
  have fd : ∀ {w : Rat}, Sm (n + 1) w → fdivD (.int k) (.int (w.den : Int)) s = .ok (.int (k / (w.den : Int))) s := fun {w} hw => by
    rw [fdivB s (den_lt hw) (den_ne w) (by omega) (by omega), Int.fdiv_eq_ediv_of_nonneg _ (by omega)]
  have hmul : ∀ {w : Rat}, Sm (n + 1) w → mulD (.int w.num) (.int (k / (w.den : Int))) s = .ok (.int (w.num * (k / (w.den : Int)))) s := fun {w} hw => by
    have hkd : Bd (1 + n + (n + 1) + (n + 1)) (k / (w.den : Int)) := by
      unfold Bd at hkb ⊢
      have h1 := Int.ediv_le_self (w.den : Int) (show 0 ≤ k by omega)
      have h2 := Int.ediv_nonneg (show 0 ≤ k by omega) (show 0 ≤ (w.den : Int) by omega)
      omega
    exact mulB s (sm_num hw) hkd (by omega) (by omega) (by omega)
  have sx : Sm (n + 1) x := s3.mono (by omega)
  have loop : l_endless_by_10 [x0, some (mxD M d), x2, x3, some (fr (Rat.divInt M.a d)), some (fr (Rat.divInt M.b d)), some (fr x), some (fr (Rat.divInt M.d d)), some (.lst [fr x, fr y, fr z]), some (.int 1), x10, x11, x12, x13, x14, x15] s = .nx [x0, some (mxD M d), x2, x3, some (fr (Rat.divInt M.a d)), some (fr (Rat.divInt M.b d)), some (fr x), some (fr (Rat.divInt M.d d)), some (.lst [fr x, fr y, fr z]), some (.int k), some (.int z.num), some (.int (z.den : Int)), x12, x13, x14, x15] s := by
    unfold l_endless_by_10 b_endless_by_10
    rw [for_ok (iter_ok rfl rfl)]
    generalize mxD M d = m at *
    generalize fr (Rat.divInt M.a d) = fa at *
    generalize fr (Rat.divInt M.b d) = fb at *
    generalize fr (Rat.divInt M.d d) = fdd at *
    generalize hL : D.lst [fr x, fr y, fr z] = row at *
    generalize hf : fr x = f6 at *
    rw [← hf]
    unfold fr
    repeat (first | walk_at "sem1" | simp only [forL, mgTup, k1, k2, k3])
  have lc1 : mLc [14, 11] (mIter (mVar 8)) (mgTup 2 (mgCons (mgName 14) (mgCons (mgName 11) mgNil))) mYes (mOp mulD (mVar 14) (mOp fdivD (mVar 9) (mVar 11))) [x0, some (mxD M d), x2, x3, some (fr (Rat.divInt M.a d)), some (fr (Rat.divInt M.b d)), some (fr x), some (fr (Rat.divInt M.d d)), some (.lst [fr x, fr y, fr z]), some (.int k), some (.int z.num), some (.int (z.den : Int)), x12, x13, x14, x15] s = .ok (.lst [.int (x.num * (k / (x.den : Int))), .int (y.num * (k / (y.den : Int))), .int (z.num * (k / (z.den : Int)))]) s := by
    have := lc_map (own := [14, 11]) (mi := mIter (mVar 8)) (tg := mgTup 2 (mgCons (mgName 14) (mgCons (mgName 11) mgNil))) (me := mOp mulD (mVar 14) (mOp fdivD (mVar 9) (mVar 11))) (l := [x0, some (mxD M d), x2, x3, some (fr (Rat.divInt M.a d)), some (fr (Rat.divInt M.b d)), some (fr x), some (fr (Rat.divInt M.d d)), some (.lst [fr x, fr y, fr z]), some (.int k), some (.int z.num), some (.int (z.den : Int)), x12, x13, x14, x15]) (s := s) (fun dd => match dd with | .tup [.int p, .int q] => .int (p * (k / q)) | _ => .non) (ds := [fr x, fr y, fr z]) (iter_ok rfl rfl) (by show 3 ≤ 100000; decide) (fun dd hdd => by
      obtain ⟨w, rfl, hw⟩ : ∃ w, dd = fr w ∧ Sm (n + 1) w := by
        simp only [List.mem_cons, List.not_mem_nil, or_false] at hdd
        rcases hdd with rfl | rfl | rfl
        · exact ⟨_, rfl, sx⟩
        · exact ⟨_, rfl, s5⟩
        · exact ⟨_, rfl, s6⟩
      have q1 := fd hw
      have q2 := hmul hw
      refine ⟨[x0, some (mxD M d), x2, x3, some (fr (Rat.divInt M.a d)), some (fr (Rat.divInt M.b d)), some (fr x), some (fr (Rat.divInt M.d d)), some (.lst [fr x, fr y, fr z]), some (.int k), some (.int z.num), some (.int (w.den : Int)), x12, x13, some (.int w.num), x15], rfl, ?_⟩
      show _ = R.ok (D.int (w.num * (k / (w.den : Int)))) s
      generalize D.lst [fr x, fr y, fr z] = row at *
      generalize mxD M d = m at *
      generalize fr (Rat.divInt M.a d) = fa at *
      generalize fr (Rat.divInt M.b d) = fb at *
      generalize fr (Rat.divInt M.d d) = fdd at *
      generalize fr x = f6 at *
      repeat (first | walk_at "sem1" | simp only [q1, q2]))
    exact this
  -- in lowest terms
  have w1 : ((x.num * (k / (x.den : Int)) : Int) : Rat) = k * x := whole3 v1 hk0
  have w2 : ((y.num * (k / (y.den : Int)) : Int) : Rat) = k * y := whole3 v2 hk0
  have w3 : ((z.num * (k / (z.den : Int)) : Int) : Rat) = k * z := whole3 v3 hk0
  generalize x.num * (k / (x.den : Int)) = W1 at *
  generalize y.num * (k / (y.den : Int)) = W2 at *
  generalize z.num * (k / (z.den : Int)) = W3 at *
  have u1 : d * W1 = k * M.c := Rat.intCast_inj.mp (by rw [Rat.intCast_mul, Rat.intCast_mul, w1]; grind)
  have u2 : d * W2 = k * (M.d - M.a) := Rat.intCast_inj.mp (by rw [Rat.intCast_mul, Rat.intCast_mul, w2]; grind)
  have u3 : d * W3 = k * (0 - M.b) := Rat.intCast_inj.mp (by rw [Rat.intCast_mul, Rat.intCast_mul, w3]; grind)
  have W10 : W1 ≠ 0 := fun e => by
    rw [e, Int.mul_zero] at u1
    have := Int.mul_pos hk0 hc
    omega
  have hpe : prim W1 W2 W3 = prim M.c (M.d - M.a) (0 - M.b) := prim_eq hk0 hd0 (by omega) W10 u1 u2 u3
  have hg := gd_ok s (d := .lst [.int W1, .int W2, .int W3]) (xs := [W1, W2, W3]) rfl
  have hg0 := g3_pos (b := W2) (c := W3) W10
  have hgb : Bd 8000 (g3 W1 W2 W3 : Int) := by
    have h1 : (g3 W1 W2 W3 : Int) ≤ W1.natAbs := by
      have := Int.natAbs_dvd_natAbs.mpr (g3_dvd W1 W2 W3).1
      rw [Int.natAbs_natCast] at this
      have := Nat.le_of_dvd (by omega) this
      omega
    have h2 : W1.natAbs ≤ (d * W1).natAbs := by
      rw [Int.natAbs_mul]
      exact Nat.le_mul_of_pos_left _ (by omega)
    have h3 : Bd (1 + n + (n + 1) + (n + 1) + n) (d * W1) := by rw [u1]; exact hkb.mul hM.c
    have h4 := h3.mono (show _ ≤ 8000 by omega)
    unfold Bd at h4 ⊢
    generalize (2 : Nat) ^ 8000 = zz at *
    omega
  have fdg : ∀ w : Int, fdivD (.int w) (.int (g3 W1 W2 W3 : Int)) s = .ok (.int (w / (g3 W1 W2 W3 : Int))) s := fun w => by
    rw [fdivB s hgb (by omega) (by decide) (by decide), Int.fdiv_eq_ediv_of_nonneg _ (by omega)]
  have hg : r_greatest_divisor [.lst [.int W1, .int W2, .int W3]] s = .ok (.int (g3 W1 W2 W3 : Int)) s := hg
  have lc2 : ∀ y14 y11, mLc [15] (mIter (mVar 12)) (mgName 15) mYes (mOp fdivD (mVar 15) (mVar 13)) [x0, some (mxD M d), x2, x3, some (fr (Rat.divInt M.a d)), some (fr (Rat.divInt M.b d)), some (fr x), some (fr (Rat.divInt M.d d)), some (.lst [fr x, fr y, fr z]), some (.int k), some (.int z.num), y11, some (.lst [.int W1, .int W2, .int W3]), some (.int (g3 W1 W2 W3 : Int)), y14, x15] s = .ok (.lst [.int (W1 / (g3 W1 W2 W3 : Int)), .int (W2 / (g3 W1 W2 W3 : Int)), .int (W3 / (g3 W1 W2 W3 : Int))]) s := fun y14 y11 => by
    have := lc_map (own := [15]) (mi := mIter (mVar 12)) (tg := mgName 15) (me := mOp fdivD (mVar 15) (mVar 13)) (l := [x0, some (mxD M d), x2, x3, some (fr (Rat.divInt M.a d)), some (fr (Rat.divInt M.b d)), some (fr x), some (fr (Rat.divInt M.d d)), some (.lst [fr x, fr y, fr z]), some (.int k), some (.int z.num), y11, some (.lst [.int W1, .int W2, .int W3]), some (.int (g3 W1 W2 W3 : Int)), y14, x15]) (s := s) (fun dd => match dd with | .int w => .int (w / (g3 W1 W2 W3 : Int)) | _ => .non) (ds := [.int W1, .int W2, .int W3]) (iter_ok rfl rfl) (by show 3 ≤ 100000; decide) (fun dd hdd => by
      obtain ⟨w, rfl⟩ : ∃ w, dd = .int w := by
        simp only [List.mem_cons, List.not_mem_nil, or_false] at hdd
        rcases hdd with rfl | rfl | rfl <;> exact ⟨_, rfl⟩
      have q1 := fdg w
      refine ⟨[x0, some (mxD M d), x2, x3, some (fr (Rat.divInt M.a d)), some (fr (Rat.divInt M.b d)), some (fr x), some (fr (Rat.divInt M.d d)), some (.lst [fr x, fr y, fr z]), some (.int k), some (.int z.num), y11, some (.lst [.int W1, .int W2, .int W3]), some (.int (g3 W1 W2 W3 : Int)), y14, some (.int w)], rfl, ?_⟩
      generalize D.lst [fr x, fr y, fr z] = row at *
      generalize D.lst [.int W1, .int W2, .int W3] = row2 at *
      generalize mxD M d = m at *
      generalize fr (Rat.divInt M.a d) = fa at *
      generalize fr (Rat.divInt M.b d) = fb at *
      generalize fr (Rat.divInt M.d d) = fdd at *
      generalize fr x = f6 at *
      repeat (first | walk_at "sem1" | simp only [q1]))
    exact this
  have hrt : D.tup [.str "root", .int (W1 / (g3 W1 W2 W3 : Int)), .int (W2 / (g3 W1 W2 W3 : Int)), .int (W3 / (g3 W1 W2 W3 : Int))] = rootD (prim M.c (M.d - M.a) (0 - M.b)) := by rw [← hpe]; rfl
  have hadd : addD (.tup [.str "root"]) (.tup [.int (W1 / (g3 W1 W2 W3 : Int)), .int (W2 / (g3 W1 W2 W3 : Int)), .int (W3 / (g3 W1 W2 W3 : Int))]) s = .ok (rootD (prim M.c (M.d - M.a) (0 - M.b))) s := by
    rw [addD_tup s (by simp) (by simp only [List.length_cons, List.length_nil]; omega), ← hrt]; rfl
  have htup : tupleF [.lst [.int (W1 / (g3 W1 W2 W3 : Int)), .int (W2 / (g3 W1 W2 W3 : Int)), .int (W3 / (g3 W1 W2 W3 : Int))]] s = .ok (.tup [.int (W1 / (g3 W1 W2 W3 : Int)), .int (W2 / (g3 W1 W2 W3 : Int)), .int (W3 / (g3 W1 W2 W3 : Int))]) s := rfl
  have hm2 : r_minus [.tup [.int 0, .int 1], fr (Rat.divInt M.b d)] s = .ok (fr z) s := m2
  have htg : mgTup 4 (mgCons (mgName 4) (mgCons (mgName 5) (mgCons (mgName 6) (mgCons (mgName 7) mgNil)))) (mxD M d) [x0, some (mxD M d), x2, x3, x4, x5, x6, x7, x8, x9, x10, x11, x12, x13, x14, x15] s = .ok [x0, some (mxD M d), x2, x3, some (fr (Rat.divInt M.a d)), some (fr (Rat.divInt M.b d)), some (fr x), some (fr (Rat.divInt M.d d)), x8, x9, x10, x11, x12, x13, x14, x15] s := by rw [← hx]; rfl
  have z3 : (3 : Nat) ≤ 100000 := by decide
  have z1 : (1 : Nat) ≤ 100000 := by decide
  simp only [t_endless_by_7, t_endless_by_8, t_endless_by_9, t_endless_by_10, t_endless_by_12, t_endless_by_13, t_endless_by_14]
  generalize D.lst [.int (W1 / (g3 W1 W2 W3 : Int)), .int (W2 / (g3 W1 W2 W3 : Int)), .int (W3 / (g3 W1 W2 W3 : Int))] = r3 at *
  generalize D.tup [.int (W1 / (g3 W1 W2 W3 : Int)), .int (W2 / (g3 W1 W2 W3 : Int)), .int (W3 / (g3 W1 W2 W3 : Int))] = r4 at *
  generalize rootD (prim M.c (M.d - M.a) (0 - M.b)) = res at *
  generalize D.lst [.int W1, .int W2, .int W3] = row2 at *
  generalize mxD M d = m at *
  generalize fr (Rat.divInt M.a d) = fa at *
  generalize fr (Rat.divInt M.b d) = fb at *
  generalize fr (Rat.divInt M.d d) = fdd at *
  generalize (g3 W1 W2 W3 : Int) = gg at *
  generalize hrow : D.lst [fr x, fr y, fr z] = row at *
  have hrow' : mLst (mCons (mVar 6) (mCons (mCall 2 r_minus (mCons (mVar 7) (mCons (mVar 4) mNil))) (mCons (mCall 2 r_minus (mCons (mC (.tup [.int 0, .int 1])) (mCons (mVar 5) mNil))) mNil))) [x0, some m, x2, x3, some fa, some fb, some (fr x), some fdd, x8, x9, x10, x11, x12, x13, x14, x15] s = .ok row s := by
    rw [← hrow]
    generalize fr x = f6 at *
    generalize fr y = f7 at *
    generalize fr z = f8 at *
    repeat (first | walk_at "sem1" | simp only [m1, hm2, z3])
  generalize fr x = f6 at *
  have key : ∀ (tg : MG) (ml : ME) (lp : MS) (lca lcb : ME), 
      tg m [x0, some m, x2, x3, x4, x5, x6, x7, x8, x9, x10, x11, x12, x13, x14, x15] s = .ok [x0, some m, x2, x3, some fa, some fb, some f6, some fdd, x8, x9, x10, x11, x12, x13, x14, x15] s →
      ml [x0, some m, x2, x3, some fa, some fb, some f6, some fdd, x8, x9, x10, x11, x12, x13, x14, x15] s = .ok row s →
      lp [x0, some m, x2, x3, some fa, some fb, some f6, some fdd, some row, some (.int 1), x10, x11, x12, x13, x14, x15] s = .nx [x0, some m, x2, x3, some fa, some fb, some f6, some fdd, some row, some (.int k), some (.int z.num), some (.int (z.den : Int)), x12, x13, x14, x15] s →
      lca [x0, some m, x2, x3, some fa, some fb, some f6, some fdd, some row, some (.int k), some (.int z.num), some (.int (z.den : Int)), x12, x13, x14, x15] s = .ok row2 s →
      lcb [x0, some m, x2, x3, some fa, some fb, some f6, some fdd, some row, some (.int k), some (.int z.num), some (.int (z.den : Int)), some row2, some (.int gg), x14, x15] s = .ok r3 s →
      mSeq (mAsg (mVar 1) tg) (mSeq (mAsg ml (mgName 8)) (mSeq (mAsg (mC (.int 1)) (mgName 9)) (mSeq lp (mSeq (mAsg lca (mgName 12)) (mSeq (mAsg (mCall 1 r_greatest_divisor (mCons (mVar 12) mNil)) (mgName 13)) (mRet (mOp addD (mTup (mCons (mC (.str "root")) mNil)) (mCB tupleF (mCons lcb mNil))))))))) [x0, some m, x2, x3, x4, x5, x6, x7, x8, x9, x10, x11, x12, x13, x14, x15] s = .rt res s := fun tg ml lp lca lcb h1 h2 h3 h4 h5 => by
    repeat (first | walk_at "sem1" | simp only [h1, h2, h3, h4, h5, hg, htup, hadd, z1])
  exact key _ _ _ _ _ htg hrow' loop lc1 (lc2 _ _)
/-! ### endless -/
def words (L : List Part) : D := .lst (L.map fun p => wordD p.1)
theorem inD_lst' {s : Sto} (k : Nat) {d : D} {xs : List D} (p : Bool) (hp : d ∈ xs ↔ p = true) (hd : plN k d = true) (h : ∀ x ∈ xs, plN k x = true) (hk : k + 1 ≤ 64) : inD d (.lst xs) s = .ok (.bl p) s ∧ ninD d (.lst xs) s = .ok (.bl (!p)) s := by
  rw [inD_lst k hd h hk, ninD_lst k hd h hk]
  cases p with
  | true => simp [hp]
  | false => simp [hp]
theorem in_words' (L : List Part) (b : Bool) (s : Sto) : inD (wordD b) (words L) s = .ok (.bl (L.any fun p => p.1 == b)) s ∧ ninD (wordD b) (words L) s = .ok (.bl (!(L.any fun p => p.1 == b))) s := by
  refine inD_lst' 1 _ ?_ (plN_word b) (fun x hx => by obtain ⟨p, _, rfl⟩ := List.mem_map.mp hx; exact plN_word _) (by decide)
  rw [List.any_eq_true, List.mem_map]
  constructor
  · rintro ⟨p, hp, e⟩
    refine ⟨p, hp, ?_⟩
    cases h : p.1 <;> cases b <;> first | rfl | (exfalso; rw [h] at e; simp only [wordD, D.str.injEq] at e; revert e; decide +kernel)
  · rintro ⟨p, hp, e⟩
    exact ⟨p, hp, by rw [eq_of_beq e]⟩
theorem any_iff {L : List Part} {b : Bool} : (L.any fun p => p.1 == b) = true ↔ ∃ p ∈ L, p.1 = b := by
  rw [List.any_eq_true]
  constructor
  · rintro ⟨p, hp, e⟩; exact ⟨p, hp, eq_of_beq e⟩
  · rintro ⟨p, hp, e⟩; exact ⟨p, hp, by rw [e]; simp⟩
theorem words_lc {L : List Part} (hl : L.length ≤ 100000) (x1 x2 x3 : Option D) (s : Sto) : mLc [2, 3] (mIter (mVar 0)) (mgTup 2 (mgCons (mgName 2) (mgCons (mgName 3) mgNil))) mYes (mVar 2) [some (ladD L), x1, x2, x3] s = .ok (words L) s := by
  have := lc_map (own := [2, 3]) (mi := mIter (mVar 0)) (tg := mgTup 2 (mgCons (mgName 2) (mgCons (mgName 3) mgNil))) (me := mVar 2) (l := [some (ladD L), x1, x2, x3]) (s := s) (fun d => match d with | .tup (w :: _) => w | _ => .non) (ds := L.map partD) (iter_ok rfl rfl) (by rw [List.length_map]; exact hl) (fun d hd => by
    obtain ⟨p, _, rfl⟩ := List.mem_map.mp hd
    refine ⟨[some (ladD L), x1, some (wordD p.1), some (fr p.2)], ?_, rfl⟩
    simp only [wipeD, mgTup, partD]
    generalize wordD p.1 = wd at *
    generalize fr p.2 = ff at *
    generalize ladD L = ld at *
    repeat (first | walk_at "sem1"))
  rw [this, List.map_map]
  rfl
theorem endless_ok {L : List Part} (h : Both L) (h1 : 1 ≤ L.length) (h2 : L.length ≤ 12) (s : Sto) : r_endless [ladD L] s = .ok (rootD (rt L)) s := by
  have e1 := look_lad h.ok h1 h2 s
  have e2 := words_lc (L := L) (by omega) none none none s
  have e3 : ninD (.str "row") (words L) s = .ok (.bl (!(L.any fun p => p.1 == true))) s := (in_words' L true s).2
  have e4 : ninD (.str "beside") (words L) s = .ok (.bl (!(L.any fun p => p.1 == false))) s := (in_words' L false s).2
  rw [any_iff.mpr h.row] at e3
  rw [any_iff.mpr h.bes] at e4
  obtain ⟨y2, y3, e5⟩ := eb_loop (s := s) (some (ladD L)) L [] none none [none, none, none, none, none, none, none, none, none, none, none, none] h.ok (by show L.length ≤ 20; omega)
  have e6 := ebt_ok (n := 100) (d := dn L) (M := mx L) ⟨(mx_bd h.ok).a.mono (by omega), (mx_bd h.ok).b.mono (by omega), (mx_bd h.ok).c.mono (by omega), (mx_bd h.ok).d.mono (by omega)⟩ ((dn_bd h.ok).mono (by omega)) (dn_pos L) (by decide) (by decide) (mx_c h.ok h.bes) (mx_b h.ok h.row) (some (ladD L)) y2 y3 none none none none none none none none none none none none s
  have e7 : l_endless_by_2 [some (ladD L), some (mxD (mx []) (dn [])), none, none, none, none, none, none, none, none, none, none, none, none, none, none] s = .nx [some (ladD L), some (mxD (mx L) (dn L)), y2, y3, none, none, none, none, none, none, none, none, none, none, none, none] s := by
    unfold l_endless_by_2
    rw [for_ok (ds := L.map partD) (s1 := s) (iter_ok rfl rfl)]
    exact e5
  have hid : mxD (mx []) (dn []) = .tup [.tup [.int 1, .int 1], .tup [.int 0, .int 1], .tup [.int 0, .int 1], .tup [.int 1, .int 1]] := by
    have a1 : Rat.divInt (mx []).a (dn []) = 1 := by decide +kernel
    have a2 : Rat.divInt (mx []).b (dn []) = 0 := by decide +kernel
    have a3 : Rat.divInt (mx []).c (dn []) = 0 := by decide +kernel
    have a4 : Rat.divInt (mx []).d (dn []) = 1 := by decide +kernel
    simp only [mxD, a1, a2, a3, a4]; rfl
  rw [hid] at e7
  have e8 : r_endless_by [ladD L] s = .ok (rootD (rt L)) s := by
    show r_endless_by [ladD L] s = .ok (rootD (prim (mx L).c ((mx L).d - (mx L).a) (0 - (mx L).b))) s
    have z4 : (4 : Nat) ≤ 100000 := by decide
    unfold r_endless_by
    simp only [t_endless_by_2]
    generalize rootD (prim (mx L).c ((mx L).d - (mx L).a) (0 - (mx L).b)) = res at *
    generalize mxD (mx L) (dn L) = m at *
    generalize ladD L = ld at *
    have key : ∀ lp t7 : MS, lp [some ld, some (.tup [.tup [.int 1, .int 1], .tup [.int 0, .int 1], .tup [.int 0, .int 1], .tup [.int 1, .int 1]]), none, none, none, none, none, none, none, none, none, none, none, none, none, none] s = .nx [some ld, some m, y2, y3, none, none, none, none, none, none, none, none, none, none, none, none] s →
        t7 [some ld, some m, y2, y3, none, none, none, none, none, none, none, none, none, none, none, none] s = .rt res s →
        mDef backF 1 16 (mSeq (mAsg (mTup (mCons (mC (.tup [.int 1, .int 1])) (mCons (mC (.tup [.int 0, .int 1])) (mCons (mC (.tup [.int 0, .int 1])) (mCons (mC (.tup [.int 1, .int 1])) mNil))))) (mgName 1)) (mSeq lp t7)) [ld] s = .ok res s := fun lp t7 k1 k2 => by
      repeat (first | walk_at "sem1" | simp only [z4, k1, k2])
    exact key _ _ e7 e6
  unfold r_endless
  generalize rootD (rt L) = res at *
  generalize words L = ws at *
  generalize ladD L = ld at *
  have key : ∀ lc : ME, lc [some ld, none, none, none] s = .ok ws s → mDef backF 1 4 (mSeq (mExpr (mCall 1 r_look_at_ladder (mCons (mVar 0) mNil))) (mSeq (mAsg lc (mgName 1)) (mSeq (mIfS (mOr (mTest (mOp ninD (mC (.str "row")) (mVar 1))) (mTest (mOp ninD (mC (.str "beside")) (mVar 1)))) (mRaise "NoSuch") mNext) (mRet (mCall 1 r_endless_by (mCons (mVar 0) mNil)))))) [ld] s = .ok res s := fun lc k1 => by
    repeat (first | walk_at "sem1" | simp only [e1, k1, e3, e4, e8])
  exact key _ e2
/-- with one kind of parts alone -/
theorem endless_none {L : List Part} (hL : okL L) (h1 : 1 ≤ L.length) (h2 : L.length ≤ 12) (hn : ¬ ((∃ p ∈ L, p.1 = true) ∧ (∃ p ∈ L, p.1 = false))) (s : Sto) : r_endless [ladD L] s = .ex ⟨"NoSuch", none⟩ s := by
  have e1 := look_lad hL h1 h2 s
  have e2 := words_lc (L := L) (by omega) none none none s
  have e3 : ninD (.str "row") (words L) s = .ok (.bl (!(L.any fun p => p.1 == true))) s := (in_words' L true s).2
  have e4 : ninD (.str "beside") (words L) s = .ok (.bl (!(L.any fun p => p.1 == false))) s := (in_words' L false s).2
  unfold r_endless
  generalize words L = ws at *
  generalize ladD L = ld at *
  have key : ∀ lc : ME, lc [some ld, none, none, none] s = .ok ws s → mDef backF 1 4 (mSeq (mExpr (mCall 1 r_look_at_ladder (mCons (mVar 0) mNil))) (mSeq (mAsg lc (mgName 1)) (mSeq (mIfS (mOr (mTest (mOp ninD (mC (.str "row")) (mVar 1))) (mTest (mOp ninD (mC (.str "beside")) (mVar 1)))) (mRaise "NoSuch") mNext) (mRet (mCall 1 r_endless_by (mCons (mVar 0) mNil)))))) [ld] s = .ex ⟨"NoSuch", none⟩ s := fun lc k1 => by
    by_cases hr : ∃ p ∈ L, p.1 = true
    · rw [any_iff.mpr hr] at e3
      have hb : (L.any fun p => p.1 == false) = false := by
        cases q : L.any fun p => p.1 == false with
        | false => rfl
        | true => exact absurd ⟨hr, any_iff.mp q⟩ hn
      rw [hb] at e4
      repeat (first | walk_at "sem1" | simp only [e1, k1, e3, e4])
    · have hb : (L.any fun p => p.1 == true) = false := by
        cases q : L.any fun p => p.1 == true with
        | false => rfl
        | true => exact absurd (any_iff.mp q) hr
      rw [hb] at e3
      repeat (first | walk_at "sem1" | simp only [e1, k1, e3])
  exact key _ e2
theorem endless_bad {d : D} (hd : shp 5 d = true) (hb : isLad d = false) (s : Sto) : r_endless [d] s = .ex ⟨"BadValue", none⟩ s := by
  have e1 := looklad_ok hd s
  rw [hb, if_neg Bool.false_ne_true] at e1
  unfold r_endless
  repeat (first | walk_at "sem1" | simp only [e1])
/-! ### order of a root and itself -/
theorem rt_sz {L : List Part} (h : Both L) (hl : L.length ≤ 12) : SzR (rt L) ∧ Prim (rt L) := by
  obtain ⟨_, _, _, _, _, a1, c1, g1⟩ := rt_spec h
  have b := mx_bd h.ok
  have hb : Bd 198 (mx L).a := b.a.mono (by omega)
  obtain ⟨p1, p2, p3⟩ := prim_bd (n := 200) (b.c.mono (by omega)) (((b.d.mono (show _ ≤ 198 by omega)).sub hb).mono (by decide)) (((bd0 198).sub (b.b.mono (by omega))).mono (show _ ≤ 200 by decide))
  exact ⟨⟨p1, p2, p3, a1, c1⟩, g1⟩
theorem order_self {r : Rt} (hr : SzR r) (hp : Prim r) (s : Sto) : r_order [rootD r, rootD r] s = .ok (.int 0) s := by
  have l1 := look_rt hr hp s
  obtain ⟨q, q0, q1, q2⟩ := isqrt_ex (disc r) (disc_nn hr)
  have e1 := fracby_ok hr s q0 q1 q2
  unfold r_order
  simp only [t_order_2, t_order_3, t_order_4]
  by_cases hpq : q * q = disc r
  · rw [if_pos hpq] at e1
    obtain ⟨z0, z1⟩ := fx_root hr hpq q0
    have hq : Bd 405 q := by
      have hd := disc_bd hr
      unfold Bd at hd ⊢
      have h1 : q ≤ disc r ∨ q ≤ 0 := by
        rcases Int.lt_or_le 0 q with z | z
        · left
          have : q * 1 ≤ q * q := Int.mul_le_mul_of_nonneg_left (by omega) q0
          omega
        · exact .inr z
      have e1 : (2 : Nat) ^ 405 = 2 ^ 404 * 2 := by rw [← Nat.pow_succ]
      have e2 : (0 : Nat) < 2 ^ 404 := Nat.pow_pos (by decide)
      rw [e1]
      generalize (2 : Nat) ^ 404 = m at *
      omega
    have sx : Sm 500 (Rat.divInt (q - r.b) (2 * r.a)) := (divInt_sm (N := 406) (hq.sub (hr.b.mono (by decide))) (((show Bd 3 2 by decide).mul hr.a).mono (by decide)) (by have := hr.a0; omega)).mono (by decide)
    have hc := cmpby_ok hr sx (by decide) (by decide) s
    have hc0 : cmpR r (Rat.divInt (q - r.b) (2 * r.a)) = 0 := by
      unfold cmpR sg
      rw [if_neg (by grind), z0]; rfl
    rw [hc0] at hc
    have nn : notND (fr (Rat.divInt (q - r.b) (2 * r.a))) .non s = .ok (.bl true) s := rfl
    generalize fr (Rat.divInt (q - r.b) (2 * r.a)) = x at *
    generalize rootD r = rd at *
    have key : ∀ rest : MS, mDef backF 2 13 (mSeq (mExpr (mCall 1 r_look_at_root (mCons (mVar 0) mNil))) (mSeq (mExpr (mCall 1 r_look_at_root (mCons (mVar 1) mNil))) (mSeq (mAsg (mCall 1 r_fraction_by (mCons (mVar 1) mNil)) (mgName 2)) (mSeq (mIfS (mTest (mOp notND (mVar 2) (mC .non))) (mRet (mCall 2 r_compare_by (mCons (mVar 0) (mCons (mVar 2) mNil)))) mNext) rest)))) [rd, rd] s = .ok (.int 0) s := fun rest => by
      repeat (first | walk_at "sem1" | simp only [l1, e1, nn, hc])
    exact key _
  · rw [if_neg hpq] at e1
    have nn : notND D.non .non s = .ok (.bl false) s := rfl
    have g1 : mgTup 4 (mgCons (mgName 3) (mgCons (mgName 4) (mgCons (mgName 5) (mgCons (mgName 6) mgNil)))) (rootD r) [some (rootD r), some (rootD r), some .non, none, none, none, none, none, none, none, none, none, none] s = .ok [some (rootD r), some (rootD r), some .non, some (.str "root"), some (.int r.a), some (.int r.b), some (.int r.c), none, none, none, none, none, none] s := rfl
    have g2 : mgTup 4 (mgCons (mgName 3) (mgCons (mgName 7) (mgCons (mgName 8) (mgCons (mgName 9) mgNil)))) (rootD r) [some (rootD r), some (rootD r), some .non, some (.str "root"), some (.int r.a), some (.int r.b), some (.int r.c), none, none, none, none, none, none] s = .ok [some (rootD r), some (rootD r), some .non, some (.str "root"), some (.int r.a), some (.int r.b), some (.int r.c), some (.int r.a), some (.int r.b), some (.int r.c), none, none, none] s := rfl
    have m1 := mulB s hr.b hr.a (by decide) (by decide) (by decide)
    have m2 := mulB s hr.a hr.b (by decide) (by decide) (by decide)
    have m3 := mulB s hr.c hr.a (by decide) (by decide) (by decide)
    have m4 := mulB s hr.a hr.c (by decide) (by decide) (by decide)
    have d1 : r.b * r.a - r.a * r.b = 0 := by rw [Int.mul_comm]; omega
    have d2 : r.c * r.a - r.a * r.c = 0 := by rw [Int.mul_comm]; omega
    have s2 : r_sign [.tup [.int 0, .int 1]] s = .ok (.int 0) s := sign_int 0 s
    have c0 : ((0 : Int) == 0) = true := rfl
    have z2 : (2 : Nat) ≤ 100000 := by decide
    simp only [t_order_6, t_order_7, t_order_9, t_order_10, t_order_11, t_order_12, t_order_13, t_order_17]
    generalize rootD r = rd at *
    generalize mgTup 4 (mgCons (mgName 3) (mgCons (mgName 4) (mgCons (mgName 5) (mgCons (mgName 6) mgNil)))) = tg1 at *
    generalize mgTup 4 (mgCons (mgName 3) (mgCons (mgName 7) (mgCons (mgName 8) (mgCons (mgName 9) mgNil)))) = tg2 at *
    have n0 : (-(0 : Int)) = 0 := rfl
    repeat (first | walk_at "sem1" | simp only [l1, e1, nn, g1, g2, m1, m2, m3, m4, d1, d2, c0, s2, z2, n0])
/-! ### the law's ladders -/
theorem la_body {p : Part} {N : Nat} (hp : 0 < p.2) (sp : Sm 3 p.2) {x : Option Rat} (hx : nn x) (sx : smo N x) (hN : 0 < N) (h9 : N ≤ 4000) (a b d : Option D) (s : Sto) :
    b__law_after_2 [a, b, some (opD x), d, some (wordD p.1), some (fr p.2)] s = .nx [a, b, some (opD (stp p x)), d, some (wordD p.1), some (fr p.2)] s := by
  obtain ⟨w, r⟩ := p
  simp only at hp sp
  have hw := word_row w s
  unfold b__law_after_2
  cases w with
  | true =>
    cases x with
    | none =>
      have hi : isND (opD none) .non s = .ok (.bl true) s := rfl
      have hres : opD (stp (true, r) none) = .non := rfl
      rw [hres]
      generalize wordD true = wd at *
      generalize opD none = xd at *
      generalize fr r = f at *
      repeat (first | walk_at "sem1" | simp only [hw, hi])
    | some x =>
      have hi : isND (opD (some x)) .non s = .ok (.bl false) s := rfl
      have h1 : r__law_add [opD (some x), fr r] s = .ok (opD (stp (true, r) (some x))) s := ladd_ok s sx sp hN (by decide) (by omega)
      generalize opD (stp (true, r) (some x)) = res at *
      generalize wordD true = wd at *
      generalize opD (some x) = xd at *
      generalize fr r = f at *
      repeat (first | walk_at "sem1" | simp only [hw, hi, h1])
  | false =>
    cases x with
    | none =>
      have hi : isND (opD none) .non s = .ok (.bl true) s := rfl
      have hres : opD (stp (false, r) none) = fr r := rfl
      rw [hres]
      generalize wordD false = wd at *
      generalize opD none = xd at *
      generalize fr r = f at *
      repeat (first | walk_at "sem1" | simp only [hw, hi])
    | some x =>
      have hx : 0 ≤ x := hx
      have hi : isND (opD (some x)) .non s = .ok (.bl false) s := rfl
      have h1 : r__law_mul [opD (some x), fr r] s = .ok (fr (x * r)) s := lmul_ok s sx sp hN (by decide) (by omega)
      have h2 : r__law_add [opD (some x), fr r] s = .ok (fr (x + r)) s := ladd_ok s sx sp hN (by decide) (by omega)
      have h3 : r__law_div [fr (x * r), fr (x + r)] s = .ok (opD (stp (false, r) (some x))) s := ldiv_ok s (times_sm sx sp) (plus_sm sx sp) (by grind) (by omega) (by omega) (by omega)
      generalize opD (stp (false, r) (some x)) = res at *
      generalize fr (x * r) = f1 at *
      generalize fr (x + r) = f2 at *
      generalize wordD false = wd at *
      generalize opD (some x) = xd at *
      generalize fr r = f at *
      repeat (first | walk_at "sem1" | simp only [hw, hi, h1, h2, h3])
theorem la_in {s : Sto} (a b d : Option D) : ∀ (M : List Part) {N : Nat} {x : Option Rat} (e f : Option D), okL M → nn x → smo N x → 0 < N → N + 4 * M.length ≤ 4000 →
    ∃ e' f', forL (mgTup 2 (mgCons (mgName 4) (mgCons (mgName 5) mgNil))) b__law_after_2 (M.map partD) [a, b, some (opD x), d, e, f] s = .nx [a, b, some (opD (M.foldl (fun x p => stp p x) x)), d, e', f'] s
  | [], N, x, e, f, _, _, _, _, _ => ⟨e, f, rfl⟩
  | p :: M, N, x, e, f, hM, hx, sx, hN, h9 => by
    have hp := hM p (List.mem_cons_self ..)
    rw [List.length_cons] at h9
    have e2 := la_body hp.1 hp.2 hx sx hN (by omega) a b d s
    obtain ⟨e', f', h⟩ := la_in (s := s) a b d M (some (wordD p.1)) (some (fr p.2)) (fun q hq => hM q (List.mem_cons_of_mem _ hq)) (stp_nn hp.1 hx) (stp_sm hp.1 hp.2 hx sx) (by omega) (by omega)
    refine ⟨e', f', ?_⟩
    have e1 : mgTup 2 (mgCons (mgName 4) (mgCons (mgName 5) mgNil)) (partD p) [a, b, some (opD x), d, e, f] s = .ok [a, b, some (opD x), d, some (wordD p.1), some (fr p.2)] s := by
      simp only [mgTup, partD]
      generalize wordD p.1 = wd at *
      generalize fr p.2 = ff at *
      generalize opD x = xd at *
      repeat (first | walk_at "sem1")
    simp only [List.map_cons, forL, e1, e2]
    exact h
theorem la_out {s : Sto} {L : List Part} (hL : okL L) (b : Option D) : ∀ (ds : List D) {N : Nat} {x : Option Rat} (d e f : Option D), nn x → smo N x → 0 < N → N + 4 * L.length * ds.length ≤ 4000 →
    ∃ d' e' f', forL (mgName 3) l__law_after_2 ds [some (ladD L), b, some (opD x), d, e, f] s = .nx [some (ladD L), b, some (opD (aft L ds.length x)), d', e', f'] s
  | [], N, x, d, e, f, _, _, _, _ => ⟨d, e, f, rfl⟩
  | d0 :: ds, N, x, d, e, f, hx, sx, hN, h9 => by
    have h10 : N + 4 * L.length + 4 * L.length * ds.length ≤ 4000 := by
      rw [List.length_cons, Nat.mul_succ] at h9; omega
    have hrev : revD (ladD L) s = .ok (.tup (L.reverse.map partD)) s := by
      show R.ok (D.tup (L.map partD).reverse) s = _
      rw [List.map_reverse]
    obtain ⟨e1, f1, h1⟩ := la_in (s := s) (some (ladD L)) b (some d0) L.reverse e f (fun q hq => hL q (List.mem_reverse.mp hq)) hx sx hN (by rw [List.length_reverse]; omega)
    rw [List.foldl_reverse] at h1
    obtain ⟨d', e', f', h⟩ := la_out (s := s) hL b ds (some d0) e1 f1 (one_nn hL hx) (one_sm hL hx sx) (by omega) h10
    refine ⟨d', e', f', ?_⟩
    have e2 : l__law_after_2 [some (ladD L), b, some (opD x), some d0, e, f] s = .nx [some (ladD L), b, some (opD (one L x)), some d0, e1, f1] s := by
      unfold l__law_after_2
      rw [for_ok (ds := L.reverse.map partD) (s1 := s) (by
        generalize ladD L = ld at *
        generalize opD x = xd at *
        repeat (first | walk_at "sem1" | simp only [mIter, hrev, stands]))]
      exact h1
    simp only [forL, mgName, List.set_cons_zero, List.set_cons_succ, e2, List.length_cons, aft]
    exact h
theorem lafter_ok {L : List Part} (hL : okL L) {n : Nat} (hn : n ≤ 40) {x : Option Rat} {N : Nat} (hx : nn x) (sx : smo N x) (hN : 0 < N) (h9 : N + 4 * L.length * n ≤ 4000) (s : Sto) :
    r__law_after [ladD L, .int n, opD x] s = .ok (opD (aft L n x)) s := by
  obtain ⟨d', e', f', h⟩ := la_out (s := s) hL (some (.int n)) (rangeD 0 n) none none none hx sx hN (by rw [rangeD_len]; exact h9)
  rw [rangeD_len] at h
  have hl : l__law_after_1 [some (ladD L), some (.int n), some (opD x), none, none, none] s = .nx [some (ladD L), some (.int n), some (opD (aft L n x)), d', e', f'] s := by
    unfold l__law_after_1
    rw [for_ok (rng1_ok (n := n) (s1 := s) rfl (by omega))]
    exact h
  unfold r__law_after
  simp only [t__law_after_9]
  generalize opD (aft L n x) = r at *
  generalize opD x = xd at *
  generalize ladD L = ld at *
  have key : ∀ lp : MS, lp [some ld, some (.int n), some xd, none, none, none] s = .nx [some ld, some (.int n), some r, d', e', f'] s → mDef backF 3 6 (mSeq lp (mRet (mVar 2))) [ld, .int n, xd] s = .ok r s := fun lp k => by
    repeat (first | walk_at "sem1" | simp only [k])
  exact key _ hl
/-! ### drawn ladders -/
theorem word_at (r : Int) (h0 : 0 ≤ r) (h1 : r < 2) (s : Sto) : ixD (.lst [.str "row", .str "beside"]) (.int r) s = .ok (wordD (decide (r = 0))) s := by
  have : r = 0 ∨ r = 1 := by omega
  rcases this with rfl | rfl <;> rfl
def vals5 : D := .lst [.tup [.int 1, .int 1], .tup [.int 2, .int 1], .tup [.int 1, .int 2], .tup [.int 3, .int 4], .tup [.int 5, .int 1]]
theorem part_at (r : Int) (h0 : 0 ≤ r) (h1 : r < 5) : ∃ x : Rat, 0 < x ∧ Sm 3 x ∧ ∀ s, ixD vals5 (.int r) s = .ok (fr x) s := by
  have : r = 0 ∨ r = 1 ∨ r = 2 ∨ r = 3 ∨ r = 4 := by omega
  rcases this with rfl | rfl | rfl | rfl | rfl
  · exact ⟨1, by decide, ⟨by decide, by decide⟩, fun s => rfl⟩
  · exact ⟨2, by decide, ⟨by decide, by decide⟩, fun s => rfl⟩
  · exact ⟨mkRat 1 2, by decide +kernel, ⟨by decide +kernel, by decide +kernel⟩, fun s => by
      have : fr (mkRat 1 2) = .tup [.int 1, .int 2] := by
        have h1 : (mkRat 1 2).num = 1 := by decide +kernel
        have h2 : (mkRat 1 2).den = 2 := by decide +kernel
        simp only [fr, h1, h2]; rfl
      rw [this]; rfl⟩
  · exact ⟨mkRat 3 4, by decide +kernel, ⟨by decide +kernel, by decide +kernel⟩, fun s => by
      have : fr (mkRat 3 4) = .tup [.int 3, .int 4] := by
        have h1 : (mkRat 3 4).num = 3 := by decide +kernel
        have h2 : (mkRat 3 4).den = 4 := by decide +kernel
        simp only [fr, h1, h2]; rfl
      rw [this]; rfl⟩
  · exact ⟨5, by decide, ⟨by decide, by decide⟩, fun s => rfl⟩
theorem ladder_step {s1 : Sto} {n : Nat} (hB : BagAt s1 n) (acc : List Part) (hlen : acc.length < 100) (x2 : D) (x3 x4 x5 : Option D) : ∃ (p : Part) (s2 : Sto), (0 < p.2 ∧ Sm 3 p.2) ∧ Drew s1 s2 n ∧
    b__law_ladder_2 [some (.ref n), some (.ref s1.length), some x2, x3, x4, x5] (s1 ++ [.lst (acc.map partD)]) = .nx [some (.ref n), some (.ref s1.length), some x2, x3, x4, x5] (s2 ++ [.lst ((acc ++ [p]).map partD)]) := by
  have hn := hB.lt
  obtain ⟨r1, t1, e1, h1, h2, d1⟩ := draw_ok (hB.app [.lst (acc.map partD)]) (many := 2) (by decide) (by decide)
  obtain ⟨s2, rfl, d1'⟩ := d1.app hn
  have hB2 := d1'.bag hn
  obtain ⟨r2, t2, e2, h3, h4, d2⟩ := draw_ok (hB2.app [.lst (acc.map partD)]) (many := 5) (by decide) (by decide)
  obtain ⟨s3, rfl, d2'⟩ := d2.app hB2.lt
  have w1 := fun s => word_at r1 h1 h2 s
  obtain ⟨x, x0, x1, w2⟩ := part_at r2 h3 h4
  refine ⟨(decide (r1 = 0), x), s3, ⟨x0, x1⟩, d1'.trans d2', ?_⟩
  have l1 : s2.length = s1.length := d1'.len
  have l2 : s3.length = s1.length := d2'.len.trans l1
  have hty : isTy "list" (s1 ++ [O.lst (acc.map partD)]) (.ref s1.length) = true := by
    have hat : (s1 ++ [O.lst (acc.map partD)])[s1.length]? = some (.lst (acc.map partD)) := by rw [List.getElem?_append_right (Nat.le_refl _), Nat.sub_self]; rfl
    simp only [isTy, hat]; rfl
  have happ : appendM (.ref s1.length) [.tup [wordD (decide (r1 = 0)), fr x]] (s3 ++ [.lst (acc.map partD)]) = .ok .non (s3 ++ [.lst ((acc ++ [(decide (r1 = 0), x)]).map partD)]) := by
    have hat : (s3 ++ [O.lst (acc.map partD)])[s1.length]? = some (.lst (acc.map partD)) := by rw [← l2, List.getElem?_append_right (Nat.le_refl _), Nat.sub_self]; rfl
    have hlt : (acc.map partD).length < 100000 := by rw [List.length_map]; omega
    simp only [appendM, hat, hlt, if_true]
    rw [← l2, List.set_append_right _ _ (Nat.le_refl _), Nat.sub_self, List.map_append]; rfl
  have z2 : (2 : Nat) ≤ 100000 := by decide
  have z5 : (5 : Nat) ≤ 100000 := by decide
  unfold vals5 at w2
  unfold b__law_ladder_2
  generalize List.map partD (acc ++ [(decide (r1 = 0), x)]) = res at *
  generalize wordD (decide (r1 = 0)) = wd at *
  generalize fr x = f at *
  generalize acc.map partD = ac at *
  repeat (first | walk_at "sem1" | simp only [mMeth, hty, happ, e1, e2, w1, w2, z2, z5])
theorem append_part {s2 : Sto} {m : Nat} (hm : s2.length = m) (acc : List Part) (hlen : acc.length < 100) (p : Part) : appendM (.ref m) [partD p] (s2 ++ [.lst (acc.map partD)]) = .ok .non (s2 ++ [.lst ((acc ++ [p]).map partD)]) ∧ isTy "list" (s2 ++ [O.lst (acc.map partD)]) (.ref m) = true := by
  have hat : (s2 ++ [O.lst (acc.map partD)])[m]? = some (.lst (acc.map partD)) := by rw [← hm, List.getElem?_append_right (Nat.le_refl _), Nat.sub_self]; rfl
  have hlt : (acc.map partD).length < 100000 := by rw [List.length_map]; omega
  constructor
  · simp only [appendM, hat, hlt, if_true]
    rw [← hm, List.set_append_right _ _ (Nat.le_refl _), Nat.sub_self, List.map_append]; rfl
  · simp only [isTy, hat]; rfl
def rowP : Part := (true, mkRat 2 3)
def besP : Part := (false, mkRat 3 2)
theorem rowP_ok : 0 < rowP.2 ∧ Sm 3 rowP.2 := ⟨by decide +kernel, by decide +kernel, by decide +kernel⟩
theorem besP_ok : 0 < besP.2 ∧ Sm 3 besP.2 := ⟨by decide +kernel, by decide +kernel, by decide +kernel⟩
theorem rowP_D : partD rowP = .tup [.str "row", .tup [.int 2, .int 3]] := by
  have h1 : (mkRat 2 3).num = 2 := by decide +kernel
  have h2 : (mkRat 2 3).den = 3 := by decide +kernel
  simp only [partD, rowP, wordD, fr, h1, h2, if_true]; rfl
theorem besP_D : partD besP = .tup [.str "beside", .tup [.int 3, .int 2]] := by
  have h1 : (mkRat 3 2).num = 3 := by decide +kernel
  have h2 : (mkRat 3 2).den = 2 := by decide +kernel
  simp only [partD, besP, wordD, fr, h1, h2]; rfl
def fixL (L : List Part) : List Part :=
  let M := if (L.any fun p => p.1 == true) = true then L else L ++ [rowP]
  if (L.any fun p => p.1 == false) = true then M else M ++ [besP]
theorem okL_app {L : List Part} (hL : okL L) {p : Part} (hp : 0 < p.2 ∧ Sm 3 p.2) : okL (L ++ [p]) := fun q hq => by
  rcases List.mem_append.mp hq with h | h
  · exact hL q h
  · rw [List.mem_singleton] at h; rw [h]; exact hp
theorem fix_both {L : List Part} (hL : okL L) (h1 : 1 ≤ L.length) (h4 : L.length ≤ 4) : Both (fixL L) ∧ 1 ≤ (fixL L).length ∧ (fixL L).length ≤ 5 := by
  unfold fixL
  by_cases hr : (L.any fun p => p.1 == true) = true
  · by_cases hb : (L.any fun p => p.1 == false) = true
    · simp only [hr, hb, if_true]
      exact ⟨⟨hL, any_iff.mp hr, any_iff.mp hb⟩, h1, by omega⟩
    · have hb' : (L.any fun p => p.1 == false) = false := by simpa using hb
      simp only [hr, hb', if_true, Bool.false_eq_true, if_false]
      obtain ⟨p, hp, e⟩ := any_iff.mp hr
      exact ⟨⟨okL_app hL besP_ok, ⟨p, List.mem_append_left _ hp, e⟩, ⟨besP, List.mem_append_right _ (List.mem_singleton.mpr rfl), rfl⟩⟩, by rw [List.length_append]; omega, by rw [List.length_append]; show L.length + 1 ≤ 5; omega⟩
  · by_cases hb : (L.any fun p => p.1 == false) = true
    · have hr' : (L.any fun p => p.1 == true) = false := by simpa using hr
      simp only [hr', hb, if_true, Bool.false_eq_true, if_false]
      obtain ⟨p, hp, e⟩ := any_iff.mp hb
      exact ⟨⟨okL_app hL rowP_ok, ⟨rowP, List.mem_append_right _ (List.mem_singleton.mpr rfl), rfl⟩, ⟨p, List.mem_append_left _ hp, e⟩⟩, by rw [List.length_append]; omega, by rw [List.length_append]; show L.length + 1 ≤ 5; omega⟩
    · exfalso
      match L, h1 with
      | p :: L, _ =>
        obtain ⟨w, r⟩ := p
        cases w
        · exact hb (by simp)
        · exact hr (by simp)
theorem any_one {L : List Part} (h1 : 1 ≤ L.length) (hb : (L.any fun p => p.1 == false) = false) : (L.any fun p => p.1 == true) = true := by
  cases L with
  | nil => cases h1
  | cons p L =>
    obtain ⟨w, r⟩ := p
    cases w with
    | false => simp only [List.any_cons, beq_self_eq_true, Bool.true_or] at hb; cases hb
    | true => simp only [List.any_cons, beq_self_eq_true, Bool.true_or]
theorem ladder_ok {s : Sto} {n : Nat} (hB : BagAt s n) (hs : plS s) : ∃ (L : List Part) (s' : Sto), r__law_ladder [.ref n] s = .ok (ladD L) s' ∧ Drew s s' n ∧ Both L ∧ 1 ≤ L.length ∧ L.length ≤ 5 := by
  have hn := hB.lt
  obtain ⟨r1, t1, e1, h1, h2, d1⟩ := draw_ok (hB.app [.lst []]) (many := 4) (by decide) (by decide)
  obtain ⟨s1, rfl, d1'⟩ := d1.app hn
  have hB1 := d1'.bag hn
  have l1 : s1.length = s.length := d1'.len
  obtain ⟨m, hm⟩ : ∃ m : Nat, r1 = (m : Int) := ⟨r1.toNat, by omega⟩
  subst hm
  obtain ⟨l', s', e, L, s2, x2, rfl, rfl, hd2, hok, hlen⟩ := forL_inv (mg := mgName 2) (mb := b__law_ladder_2) (ds := rangeD 0 (m + 1))
    (fun k l t => ∃ (L : List Part) (s2 : Sto) (x2 : Option D), l = [some (.ref n), some (.ref s.length), x2, none, none, none] ∧ t = s2 ++ [.lst (L.map partD)] ∧ Drew s1 s2 n ∧ okL L ∧ L.length = k)
    (fun k d l t hd ⟨L, s2, x2, el, et, hd2, hok, hlen⟩ => by
      subst el et
      have hk := (rangeD_get hd).1
      have hB2 := hd2.bag hB1.lt
      have l2 : s2.length = s.length := hd2.len.trans l1
      obtain ⟨p, s3, hp, d3, e3⟩ := ladder_step hB2 L (by omega) d none none none
      rw [l2] at e3
      exact ⟨_, _, rfl, _, _, e3, L ++ [p], s3, some d, rfl, rfl, hd2.trans d3, okL_app hok hp, by rw [List.length_append, hlen]; rfl⟩)
    (l := [some (.ref n), some (.ref s.length), none, none, none, none]) (s := s1 ++ [.lst []]) ⟨[], s1, none, rfl, rfl, Drew.refl hB1, (fun q hq => by cases hq), rfl⟩
  rw [rangeD_len] at hlen
  have d3 : Drew s s2 n := d1'.trans hd2
  have l2 : s2.length = s.length := d3.len
  obtain ⟨f1, f2, f3⟩ := fix_both hok (by omega) (by omega)
  refine ⟨fixL L, s2, ?_, d3, f1, f2, f3⟩
  have hl : l__law_ladder_2 [some (.ref n), some (.ref s.length), none, none, none, none] (s ++ [.lst []]) = .nx [some (.ref n), some (.ref s.length), x2, none, none, none] (s2 ++ [.lst (L.map partD)]) := by
    unfold l__law_ladder_2
    rw [for_ok (rng1_ok (n := m + 1) (s1 := s1 ++ [.lst []]) (by
      have : ((m + 1 : Nat) : Int) = 1 + (m : Int) := by omega
      rw [this]
      repeat (first | walk_at "sem1" | simp only [e1])) (by omega))]
    exact e
  have at0 : ∀ M : List Part, (s2 ++ [O.lst (M.map partD)])[s.length]? = some (.lst (M.map partD)) := fun M => by rw [← l2, List.getElem?_append_right (Nat.le_refl _), Nat.sub_self]; rfl
  have hw : mLcR [4, 5] 1 (mgTup 2 (mgCons (mgName 4) (mgCons (mgName 5) mgNil))) mYes (mVar 4) [some (.ref n), some (.ref s.length), x2, none, none, none] (s2 ++ [.lst (L.map partD)]) = .ok (words L) (s2 ++ [.lst (L.map partD)]) := by
    have hlc := lcLC_pure (n := s.length) (xs := L.map partD) (tg := mgTup 2 (mgCons (mgName 4) (mgCons (mgName 5) mgNil))) (tt := mYes) (me := mVar 4) (l := [some (.ref n), some (.ref s.length), x2, none, none, none]) (s := s2 ++ [.lst (L.map partD)]) (fun _ => true) (fun d => match d with | .tup (w :: _) => w | _ => .non) (at0 L) (ds := L.map partD) (fun d hd => by
      obtain ⟨p, _, rfl⟩ := List.mem_map.mp hd
      refine ⟨[some (.ref n), some (.ref s.length), x2, none, some (wordD p.1), some (fr p.2)], ?_, rfl, fun _ => rfl⟩
      simp only [mgTup, partD]
      generalize wordD p.1 = wd at *
      generalize fr p.2 = ff at *
      generalize s2 ++ [O.lst (L.map partD)] = st at *
      repeat (first | walk_at "sem1"))
    have hf : (L.map partD).filter (fun _ => true) = L.map partD := List.filter_eq_self.mpr fun _ _ => rfl
    rw [hf, List.map_map] at hlc
    have hlen2 : (List.map ((fun d => match d with | .tup (w :: _) => w | _ => D.non) ∘ partD) L).length ≤ 100000 := by rw [List.length_map]; omega
    simp only [mLcR, List.getElem?_cons_succ, List.getElem?_cons_zero, at0 L, wipeD, List.set_cons_succ, List.set_cons_zero, hlc, noEx, R.bind_ok, if_pos hlen2]
    rfl
  have e3 : ninD (.str "row") (words L) = fun s => .ok (.bl (!(L.any fun p => p.1 == true))) s := funext fun s => (in_words' L true s).2
  have e4 : ninD (.str "beside") (words L) = fun s => .ok (.bl (!(L.any fun p => p.1 == false))) s := funext fun s => (in_words' L false s).2
  have ht : ∀ M : List Part, tupleF [.ref s.length] (s2 ++ [.lst (M.map partD)]) = .ok (ladD M) (s2 ++ [.lst (M.map partD)]) := fun M => by
    simp only [tupleF, rdL, at0 M]; rfl
  have hb := fun M : List Part => backF_pl' (n := s.length) (t := [.lst (M.map partD)]) l2.symm (d3.plS hs) (plN_mono (plN_lad M) (show 4 ≤ 12 by decide))
  have ap1 := append_part l2 L (by omega) rowP
  have ap2 := append_part l2 L (by omega) besP
  rw [rowP_D] at ap1
  rw [besP_D] at ap2
  have z0 : (0 : Nat) ≤ 100000 := by decide
  have z2 : (2 : Nat) ≤ 100000 := by decide
  have key : ∃ M : List Part, fixL L = M ∧ outR (mSeq (mAsg (mNew mNil) (mgName 1)) t__law_ladder_2 [some (.ref n), none, none, none, none, none] s) = .ok (ladD M) (s2 ++ [.lst (M.map partD)]) := by
    simp only [t__law_ladder_2, t__law_ladder_4, t__law_ladder_5, t__law_ladder_7, t__law_ladder_9]
    have step : ∀ (lp : MS) (lc : ME) (b1 b2 : Bool) (M1 M2 : List Part), lp [some (.ref n), some (.ref s.length), none, none, none, none] (s ++ [.lst []]) = .nx [some (.ref n), some (.ref s.length), x2, none, none, none] (s2 ++ [.lst (L.map partD)]) →
        lc [some (.ref n), some (.ref s.length), x2, none, none, none] (s2 ++ [.lst (L.map partD)]) = .ok (words L) (s2 ++ [.lst (L.map partD)]) →
        (L.any fun p => p.1 == true) = b1 → (L.any fun p => p.1 == false) = b2 →
        M1 = (if b1 = true then L else L ++ [rowP]) → M2 = (if b2 = true then M1 else M1 ++ [besP]) →
        (b1 = false → appendM (.ref s.length) [.tup [.str "row", .tup [.int 2, .int 3]]] (s2 ++ [.lst (L.map partD)]) = .ok .non (s2 ++ [.lst (M1.map partD)])) →
        (b2 = false → appendM (.ref s.length) [.tup [.str "beside", .tup [.int 3, .int 2]]] (s2 ++ [.lst (M1.map partD)]) = .ok .non (s2 ++ [.lst (M2.map partD)])) →
        (∀ M : List Part, isTy "list" (s2 ++ [O.lst (M.map partD)]) (.ref s.length) = true) →
        outR (mSeq (mAsg (mNew mNil) (mgName 1)) (mSeq lp (mSeq (mAsg lc (mgName 3)) (mSeq (mIfS (mTest (mOp ninD (mC (.str "row")) (mVar 3))) (mExpr (mMeth "list" appendM (mVar 1) (mCons (mTup (mCons (mC (.str "row")) (mCons (mTup (mCons (mC (.int 2)) (mCons (mC (.int 3)) mNil))) mNil))) mNil))) mNext) (mSeq (mIfS (mTest (mOp ninD (mC (.str "beside")) (mVar 3))) (mExpr (mMeth "list" appendM (mVar 1) (mCons (mTup (mCons (mC (.str "beside")) (mCons (mTup (mCons (mC (.int 3)) (mCons (mC (.int 2)) mNil))) mNil))) mNil))) mNext) (mRet (mCB tupleF (mCons (mVar 1) mNil))))))) [some (.ref n), none, none, none, none, none] s) = .ok (ladD M2) (s2 ++ [.lst (M2.map partD)]) := fun lp lc b1 b2 M1 M2 k1 k2 q1 q2 hM1 hM2 k3 k4 hty => by
      rw [q1] at e3
      rw [q2] at e4
      have hty0 := hty L
      have hty1 := hty M1
      have ht2 := ht M2
      generalize ladD M2 = res at *
      generalize words L = ws at *
      generalize hz0 : s2 ++ [O.lst (L.map partD)] = st0 at *
      generalize hz1 : s2 ++ [O.lst (M1.map partD)] = st1 at *
      generalize hz2 : s2 ++ [O.lst (M2.map partD)] = st2 at *
      cases b1 with
      | true =>
        have e01 : st0 = st1 := by rw [← hz0, ← hz1, hM1]; rfl
        subst e01
        cases b2 with
        | true =>
          have e12 : st0 = st2 := by rw [← hz2, hM2, ← hz1]; rfl
          subst e12
          repeat (first | walk_at "sem1" | simp only [mNew, z0, z2, k1, k2, e3, e4, ht2])
        | false =>
          have k4 := k4 rfl
          repeat (first | walk_at "sem1" | simp only [mNew, z0, z2, k1, k2, e3, e4, mMeth, hty0, k4, ht2])
      | false =>
        have k3 := k3 rfl
        cases b2 with
        | true =>
          have e12 : st1 = st2 := by rw [← hz2, hM2, ← hz1]; rfl
          subst e12
          repeat (first | walk_at "sem1" | simp only [mNew, z0, z2, k1, k2, e3, e4, mMeth, hty0, k3, ht2])
        | false =>
          have k4 := k4 rfl
          repeat (first | walk_at "sem1" | simp only [mNew, z0, z2, k1, k2, e3, e4, mMeth, hty0, hty1, k3, k4, ht2])
    have hty : ∀ M : List Part, isTy "list" (s2 ++ [O.lst (M.map partD)]) (.ref s.length) = true := fun M => by simp only [isTy, at0 M]; rfl
    refine ⟨_, rfl, step _ _ _ _ (if (L.any fun p => p.1 == true) = true then L else L ++ [rowP]) _ hl hw rfl rfl rfl rfl (fun hb1 => ?_) (fun hb2 => ?_) hty⟩
    · rw [hb1]; exact ap1.1
    · have hrow : (L.any fun p => p.1 == true) = true := by
        exact any_one (by omega) hb2
      have hfx : fixL L = L ++ [besP] := by
        unfold fixL
        simp only [hrow, hb2, if_true, Bool.false_eq_true, if_false]
      rw [hrow, hfx]
      exact ap2.1
  obtain ⟨M, hM, hk⟩ := key
  rw [hM]
  unfold r__law_ladder
  simp only [mDef, List.length_cons, List.length_nil, Nat.reduceAdd, if_true, List.map_cons, List.map_nil, Nat.reduceSub, List.replicate_succ, List.replicate_zero, List.cons_append, List.nil_append]
  rw [hk, hb M]
/-! ### u + v s in the law -/
theorem lover_ok {x y : Pr} {d : Int} {N : Nat} (h1 : Sm N x.1) (h2 : Sm N x.2) (h3 : Sm N y.1) (h4 : Sm N y.2) (hd : Sm N (d : Rat)) (hN : 0 < N) (h9 : N ≤ 500) (hn : y.1 * y.1 - d * (y.2 * y.2) ≠ 0) (s : Sto) :
    r__law_over [.tup [fr x.1, fr x.2], .tup [fr y.1, fr y.2], .int d] s = .ok (.tup [fr (povr x y d).1, fr (povr x y d).2]) s := by
  have m := fun {a b : Rat} {A B : Nat} (ha : Sm A a) (hb : Sm B b) (hA : 0 < A) (hB : 0 < B) (hs : A + B ≤ 9000) => lmul_ok s ha hb hA hB hs
  have a1 := m h3 h3 hN hN (by omega)
  have a2 := m h4 h4 hN hN (by omega)
  have a3 := m hd (times_sm h4 h4) hN (by omega) (by omega)
  have a4 := lsub_ok s (times_sm h3 h3) (times_sm hd (times_sm h4 h4)) (by omega) (by omega) (by omega)
  have a5 := m h1 h3 hN hN (by omega)
  have a6 := m h2 h4 hN hN (by omega)
  have a7 := m hd (times_sm h2 h4) hN (by omega) (by omega)
  have a8 := lsub_ok s (times_sm h1 h3) (times_sm hd (times_sm h2 h4)) (by omega) (by omega) (by omega)
  have a9 := m h2 h3 hN hN (by omega)
  have b1 := m h1 h4 hN hN (by omega)
  have b2 := lsub_ok s (times_sm h2 h3) (times_sm h1 h4) (by omega) (by omega) (by omega)
  have su := minus_sm (times_sm h3 h3) (times_sm hd (times_sm h4 h4))
  have st := minus_sm (times_sm h1 h3) (times_sm hd (times_sm h2 h4))
  have sv := minus_sm (times_sm h2 h3) (times_sm h1 h4)
  have c1 := ldiv_ok s st su hn (by omega) (by omega) (by omega)
  have c2 := ldiv_ok s sv su hn (by omega) (by omega) (by omega)
  have hdd : D.tup [.int d, .int 1] = fr (d : Rat) := by
    simp only [fr, Rat.num_intCast, Rat.den_intCast]; rfl
  have z2 : (2 : Nat) ≤ 100000 := by decide
  show r__law_over _ s = .ok (.tup [fr ((x.1 * y.1 - d * (x.2 * y.2)) / (y.1 * y.1 - d * (y.2 * y.2))), fr ((x.2 * y.1 - x.1 * y.2) / (y.1 * y.1 - d * (y.2 * y.2)))]) s
  unfold r__law_over
  generalize fr ((x.1 * y.1 - d * (x.2 * y.2)) / (y.1 * y.1 - d * (y.2 * y.2))) = r1 at *
  generalize fr ((x.2 * y.1 - x.1 * y.2) / (y.1 * y.1 - d * (y.2 * y.2))) = r2 at *
  generalize fr (y.1 * y.1 - d * (y.2 * y.2)) = g1 at *
  generalize fr (x.1 * y.1 - d * (x.2 * y.2)) = g2 at *
  generalize fr (x.2 * y.1 - x.1 * y.2) = g3 at *
  generalize fr ((d : Rat) * (y.2 * y.2)) = g4 at *
  generalize fr ((d : Rat) * (x.2 * y.2)) = g5 at *
  generalize fr (y.1 * y.1) = g6 at *
  generalize fr (y.2 * y.2) = g7 at *
  generalize fr (x.1 * y.1) = g8 at *
  generalize fr (x.2 * y.2) = g9 at *
  generalize fr (x.2 * y.1) = k1 at *
  generalize fr (x.1 * y.2) = k2 at *
  generalize fr (d : Rat) = fd at *
  generalize fr x.1 = f1 at *
  generalize fr x.2 = f2 at *
  generalize fr y.1 = f3 at *
  generalize fr y.2 = f4 at *
  repeat (first | walk_at "sem1" | simp only [mgTup, hdd, a1, a2, a3, a4, a5, a6, a7, a8, a9, b1, b2, c1, c2, z2])
def prD (x : Pr) : D := .tup [fr x.1, fr x.2]
/-- the sizes of what is seen through a table -/
theorem val_sm {M : Mx} {r : Rt} {y : Pr} (ha : 1 ≤ r.a) (h : Val M (dsc r) (ru r) y) (hn : nrm M (dsc r) (ru r) ≠ 0) (hM : Bd4 30 M) (h1 : Bd 60 r.a) (h2 : Bd 60 r.b) (h3 : Bd 60 r.c) : Sm 400 y.1 ∧ Sm 400 y.2 := by
  obtain ⟨e1, e2⟩ := h
  obtain ⟨k1, k2, k3⟩ := ru_eq ha
  obtain ⟨b1, b2, b3, b4⟩ := hM
  obtain ⟨a, b, c, d⟩ := M
  simp only at b1 b2 b3 b4
  have hD : Bd 124 (dsc r) := ((h2.mul h2).mono (show _ ≤ 123 by decide)).sub (((show Bd 3 4 by decide).mul h1).mul h3)
  -- in integers
  generalize hP : 2 * r.a * d - c * r.b = P
  generalize hN : P * P - c * c * dsc r = N
  generalize hY : (2 * r.a * b - a * r.b) * P - a * c * dsc r = Y1
  generalize hZ : a * P - c * (2 * r.a * b - a * r.b) = Y2
  have bP : Bd 94 P := by
    rw [← hP]
    exact ((((show Bd 3 2 by decide).mul h1).mul b4)).sub ((b3.mul h2).mono (by decide))
  have bQ : Bd 94 (2 * r.a * b - a * r.b) := (((show Bd 3 2 by decide).mul h1).mul b2).sub ((b1.mul h2).mono (by decide))
  have bN : Bd 400 N := by
    rw [← hN]
    exact (((bP.mul bP).mono (show _ ≤ 188 by decide)).sub (((b3.mul b3).mul hD).mono (show _ ≤ 188 by decide))).mono (by decide)
  have bY1 : Bd 400 Y1 := by
    rw [← hY]
    exact (((bQ.mul bP).mono (show _ ≤ 188 by decide)).sub (((b1.mul b3).mul hD).mono (show _ ≤ 188 by decide))).mono (by decide)
  have bY2 : Bd 400 Y2 := by
    rw [← hZ]
    exact (((b1.mul bP).mono (show _ ≤ 188 by decide)).sub ((b3.mul bQ).mono (show _ ≤ 188 by decide))).mono (by decide)
  -- the equations
  generalize hDq : ((dsc r : Int) : Rat) = Dq at *
  generalize ru r = x at *
  obtain ⟨u, v⟩ := x
  obtain ⟨y1, y2⟩ := y
  simp only at e1 e2 k1 k2
  have cP : ((P : Int) : Rat) = 2 * r.a * d - c * r.b := by rw [← hP]; simp only [Rat.intCast_sub, Rat.intCast_mul]; rfl
  have cN : ((N : Int) : Rat) = (P : Rat) * P - c * c * Dq := by rw [← hN, ← hDq]; simp only [Rat.intCast_sub, Rat.intCast_mul]
  have cY1 : ((Y1 : Int) : Rat) = (2 * r.a * b - a * r.b) * (P : Rat) - a * c * Dq := by rw [← hY, ← hDq]; simp only [Rat.intCast_sub, Rat.intCast_mul]; rfl
  have cY2 : ((Y2 : Int) : Rat) = a * (P : Rat) - c * (2 * r.a * b - a * r.b) := by rw [← hZ]; simp only [Rat.intCast_sub, Rat.intCast_mul]; rfl
  have w1 : (P : Rat) * y1 + c * y2 * Dq = 2 * r.a * b - a * r.b := by rw [cP]; grind
  have w2 : (P : Rat) * y2 + c * y1 = a := by rw [cP]; grind
  have n0 : ((N : Int) : Rat) ≠ 0 := fun z => hn (by
    unfold nrm
    simp only
    rw [z] at cN
    have : (2 * (r.a : Rat)) * (2 * (r.a : Rat)) * (((c : Rat) * u + d) * ((c : Rat) * u + d) - (c : Rat) * v * ((c : Rat) * v) * Dq) = 0 := by
      have q1 : (2 * (r.a : Rat)) * ((c : Rat) * u + d) = P := by rw [cP]; grind
      have q2 : (2 * (r.a : Rat)) * ((c : Rat) * v) = c := by grind
      grind
    rcases Rat.mul_eq_zero.mp this with q | q
    · have := Rat.mul_pos (show 0 < 2 * (r.a : Rat) by grind) (show 0 < 2 * (r.a : Rat) by grind)
      grind
    · exact q)
  have N0 : N ≠ 0 := fun z => n0 (by rw [z]; rfl)
  have f1 : y1 = Rat.divInt Y1 N := by
    rw [Rat.divInt_eq_div, cY1]
    have : (N : Rat) * y1 = (2 * r.a * b - a * r.b) * (P : Rat) - a * c * Dq := by rw [cN, ← w1, ← w2]; grind
    grind
  have f2 : y2 = Rat.divInt Y2 N := by
    rw [Rat.divInt_eq_div, cY2]
    have : (N : Rat) * y2 = a * (P : Rat) - c * (2 * r.a * b - a * r.b) := by rw [cN, ← w1, ← w2]; grind
    grind
  exact ⟨by show Sm 400 y1; rw [f1]; exact divInt_sm bY1 bN N0, by show Sm 400 y2; rw [f2]; exact divInt_sm bY2 bN N0⟩
theorem pall_snoc (d : Rat) (p : Part) (L : List Part) (x : Pr) : pall d (p :: L) x = pstp d p (pall d L x) := rfl
/-- the law's way through the ladder -/
theorem th_loop {r : Rt} (ha : 1 ≤ r.a) (hsq : ¬ ∃ q : Int, 0 ≤ q ∧ q * q = dsc r) (h1 : Bd 60 r.a) (h2 : Bd 60 r.b) (h3 : Bd 60 r.c) (x0 : Option D) (s : Sto) : ∀ (M R : List Part) (x3 x4 x5 : Option D), okL (M.reverse ++ R) → (M.reverse ++ R).length ≤ 6 → ∃ y3 y4 y5,
    forL (mgTup 2 (mgCons (mgName 3) (mgCons (mgName 4) mgNil))) b__law_through_1 (M.map partD) [x0, some (prD (pall (dsc r) R (ru r))), some (.int (dsc r)), x3, x4, x5] s = .nx [x0, some (prD (pall (dsc r) (M.reverse ++ R) (ru r))), some (.int (dsc r)), y3, y4, y5] s
  | [], R, x3, x4, x5, _, _ => ⟨x3, x4, x5, rfl⟩
  | p :: M, R, x3, x4, x5, hok, hlen => by
    have e0 : (p :: M).reverse ++ R = M.reverse ++ (p :: R) := by simp
    rw [e0] at hok hlen ⊢
    have hR : okL (p :: R) := fun q hq => hok q (List.mem_append_right _ hq)
    have hR' : okL R := fun q hq => hR q (List.mem_cons_of_mem _ hq)
    have hlR : R.length ≤ 5 := by simp only [List.length_append, List.length_cons] at hlen; omega
    have hp := hR p (List.mem_cons_self ..)
    have hv := pall_val hR' ha hsq
    have hn : nrm (mx R) (dsc r) (ru r) ≠ 0 := nrm_ne ha hsq (.inr (by have := (mx_pos hR').d; omega))
    have bR := mx_bd hR'
    obtain ⟨s1, s2⟩ := val_sm ha hv hn ⟨bR.a.mono (by omega), bR.b.mono (by omega), bR.c.mono (by omega), bR.d.mono (by omega)⟩ h1 h2 h3
    have hn2 : nrm (mx (p :: R)) (dsc r) (ru r) ≠ 0 := nrm_ne ha hsq (.inr (by have := (mx_pos hR).d; omega))
    obtain ⟨y3, y4, y5, h⟩ := th_loop ha hsq h1 h2 h3 x0 s M (p :: R) (some (wordD p.1)) (some (fr p.2)) (some (prD ((pall (dsc r) R (ru r)).1 + p.2, (pall (dsc r) R (ru r)).2))) hok hlen
    refine ⟨y3, y4, y5, ?_⟩
    have e1 : mgTup 2 (mgCons (mgName 3) (mgCons (mgName 4) mgNil)) (partD p) [x0, some (prD (pall (dsc r) R (ru r))), some (.int (dsc r)), x3, x4, x5] s = .ok [x0, some (prD (pall (dsc r) R (ru r))), some (.int (dsc r)), some (wordD p.1), some (fr p.2), x5] s := by
      simp only [mgTup, partD]
      generalize wordD p.1 = wd at *
      generalize fr p.2 = ff at *
      generalize prD (pall (dsc r) R (ru r)) = pd at *
      repeat (first | walk_at "sem1")
    have e2 : b__law_through_1 [x0, some (prD (pall (dsc r) R (ru r))), some (.int (dsc r)), some (wordD p.1), some (fr p.2), x5] s = .nx [x0, some (prD (pall (dsc r) (p :: R) (ru r))), some (.int (dsc r)), some (wordD p.1), some (fr p.2), some (prD ((pall (dsc r) R (ru r)).1 + p.2, (pall (dsc r) R (ru r)).2))] s := by
      rw [pall_snoc]
      generalize hy : pall (dsc r) R (ru r) = y at *
      have hw := word_row p.1 s
      have i0 : ixD (prD y) (.int 0) s = .ok (fr y.1) s := rfl
      have i1 : ixD (prD y) (.int 1) s = .ok (fr y.2) s := rfl
      have ad := ladd_ok s s1 hp.2 (by decide) (by decide) (by decide)
      have z2 : (2 : Nat) ≤ 100000 := by decide
      have hmore : prD (y.1 + p.2, y.2) = .tup [fr (y.1 + p.2), fr y.2] := rfl
      obtain ⟨w, q⟩ := p
      simp only at hw ad hmore ⊢
      unfold b__law_through_1
      simp only [t__law_through_3]
      rw [hmore]
      cases w with
      | true =>
        have hres : pstp (dsc r) (true, q) y = (y.1 + q, y.2) := rfl
        rw [hres, hmore]
        generalize fr (y.1 + q) = f3 at *
        generalize fr y.1 = f1 at *
        generalize fr y.2 = f2 at *
        generalize prD y = pd at *
        generalize wordD true = wd at *
        generalize fr q = f at *
        generalize dsc r = dd at *
        repeat (first | walk_at "sem1" | simp only [hw, i0, i1, ad, z2])
      | false =>
        have hnn : (y.1 + q) * (y.1 + q) - ((dsc r : Int) : Rat) * (y.2 * y.2) ≠ 0 := fun z => hn2 (by
          show nrm (mul (mp (false, q)) (mx R)) _ _ = 0
          rw [nrm_bes hv, z, Rat.mul_zero, Rat.mul_zero])
        have hDs : Sm 440 ((dsc r : Int) : Rat) := by
          have hD : Bd 124 (dsc r) := ((h2.mul h2).mono (show _ ≤ 123 by decide)).sub (((show Bd 3 4 by decide).mul h1).mul h3)
          refine ⟨?_, ?_⟩
          · rw [Rat.num_intCast]; exact hD.mono (by decide)
          · rw [Rat.den_intCast]; exact Nat.one_lt_two_pow (by decide)
        have m1 := lmul_ok s s1 hp.2 (by decide) (by decide) (by decide)
        have m2 := lmul_ok s s2 hp.2 (by decide) (by decide) (by decide)
        have ov := lover_ok (x := (y.1 * q, y.2 * q)) (y := (y.1 + q, y.2)) (d := dsc r) (N := 440) ((times_sm s1 hp.2).mono (by decide)) ((times_sm s2 hp.2).mono (by decide)) ((plus_sm s1 hp.2).mono (by decide)) (s2.mono (by decide)) hDs (by decide) (by decide) hnn s
        have hres : pstp (dsc r) (false, q) y = povr (y.1 * q, y.2 * q) (y.1 + q, y.2) (dsc r) := rfl
        rw [hres]
        have hpr : prD (povr (y.1 * q, y.2 * q) (y.1 + q, y.2) (dsc r)) = .tup [fr (povr (y.1 * q, y.2 * q) (y.1 + q, y.2) (dsc r)).1, fr (povr (y.1 * q, y.2 * q) (y.1 + q, y.2) (dsc r)).2] := rfl
        rw [hpr]
        simp only at ov m1 m2
        generalize D.tup [fr (povr (y.1 * q, y.2 * q) (y.1 + q, y.2) (dsc r)).1, fr (povr (y.1 * q, y.2 * q) (y.1 + q, y.2) (dsc r)).2] = res at *
        generalize fr (y.1 * q) = f5 at *
        generalize fr (y.2 * q) = f6 at *
        generalize fr (y.1 + q) = f3 at *
        generalize fr y.1 = f1 at *
        generalize fr y.2 = f2 at *
        generalize prD y = pd at *
        generalize wordD false = wd at *
        generalize fr q = f at *
        generalize dsc r = dd at *
        repeat (first | walk_at "sem1" | simp only [hw, i0, i1, ad, m1, m2, ov, z2])
    simp only [List.map_cons, forL, e1, e2]
    exact h
theorem through_ok {r : Rt} (ha : 1 ≤ r.a) (hsq : ¬ ∃ q : Int, 0 ≤ q ∧ q * q = dsc r) (h1 : Bd 60 r.a) (h2 : Bd 60 r.b) (h3 : Bd 60 r.c) {L : List Part} (hL : okL L) (hl : L.length ≤ 6) (s : Sto) :
    r__law_through [ladD L, prD (ru r), .int (dsc r)] s = .ok (prD (pall (dsc r) L (ru r))) s := by
  obtain ⟨y3, y4, y5, h⟩ := th_loop ha hsq h1 h2 h3 (some (ladD L)) s L.reverse [] none none none (by rw [List.reverse_reverse, List.append_nil]; exact hL) (by rw [List.reverse_reverse, List.append_nil]; exact hl)
  rw [List.reverse_reverse, List.append_nil] at h
  have hrev : revD (ladD L) s = .ok (.tup (L.reverse.map partD)) s := by
    show R.ok (D.tup (L.map partD).reverse) s = _
    rw [List.map_reverse]
  have hlp : l__law_through_1 [some (ladD L), some (prD (ru r)), some (.int (dsc r)), none, none, none] s = .nx [some (ladD L), some (prD (pall (dsc r) L (ru r))), some (.int (dsc r)), y3, y4, y5] s := by
    unfold l__law_through_1
    rw [for_ok (ds := L.reverse.map partD) (s1 := s) (by
      generalize ladD L = ld at *
      generalize prD (ru r) = pd at *
      repeat (first | walk_at "sem1" | simp only [mIter, hrev, stands]))]
    exact h
  unfold r__law_through
  simp only [t__law_through_7]
  generalize prD (pall (dsc r) L (ru r)) = res at *
  generalize prD (ru r) = pd at *
  generalize ladD L = ld at *
  have key : ∀ lp : MS, lp [some ld, some pd, some (.int (dsc r)), none, none, none] s = .nx [some ld, some res, some (.int (dsc r)), y3, y4, y5] s → mDef backF 3 6 (mSeq lp (mRet (mVar 1))) [ld, pd, .int (dsc r)] s = .ok res s := fun lp k => by
    repeat (first | walk_at "sem1" | simp only [k])
  exact key _ hlp
/-! ### the law's whole root -/
theorem lw_up {u : Int} (hu0 : 0 ≤ u) (hu : Bd 2000 u) (s : Sto) : ∃ k : Nat, u < 2 ^ k * 2 ^ k ∧ k ≤ 2000 ∧ l__law_whole_3 [some (.int u), some (.int 0), some (.int 1)] s = .nx [some (.int u), some (.int 0), some (.int (2 ^ k))] s := by
  have hpow : ∀ k : Nat, (2 : Int) ^ k * 2 ^ k ≤ u → k < 2000 := fun k hk => by
    rcases Nat.lt_or_ge k 2000 with z | z
    · exact z
    · exfalso
      have h1 : (2 : Int) ^ 2000 ≤ 2 ^ k := by
        have : (2 : Nat) ^ 2000 ≤ 2 ^ k := Nat.pow_le_pow_right (by decide) z
        exact_mod_cast this
      have h2 : (1 : Int) ≤ 2 ^ k := by have := two_pow_pos k; omega
      have h3 : (2 : Int) ^ k * 1 ≤ 2 ^ k * 2 ^ k := Int.mul_le_mul_of_nonneg_left h2 (by omega)
      have h4 : u < 2 ^ 2000 := by
        have : ((u.natAbs : Nat) : Int) < ((2 ^ 2000 : Nat) : Int) := Int.ofNat_lt.mpr hu
        have e : ((2 ^ 2000 : Nat) : Int) = (2 : Int) ^ 2000 := by push_cast; rfl
        omega
      generalize (2 : Int) ^ 2000 = q at *
      generalize (2 : Int) ^ k * 2 ^ k = r at *
      omega
  have bd : ∀ k : Nat, k ≤ 2000 → Bd 2001 (2 ^ k) := fun k hk => by
    unfold Bd
    rw [Int.natAbs_pow]
    exact Nat.pow_lt_pow_right (by decide) (by omega)
  obtain ⟨n', l', s', e, ⟨k, el, et, hk, hn⟩, hf⟩ := while_inv (mc := mTest (mOp leD (mOp mulD (mVar 2) (mVar 2)) (mVar 0))) (mb := b__law_whole_3) (fun n l t => ∃ k : Nat, l = [some (.int u), some (.int 0), some (.int (2 ^ k))] ∧ t = s ∧ k ≤ 2000 ∧ n = 2000 - k)
    (fun n l t ⟨k, el, et, hk, hn⟩ => by
      subst el et
      have m1 := mulB t (bd k hk) (bd k hk) (by decide) (by decide) (by decide)
      have m2 := mulB (i := 2) t (show Bd 10 2 by decide) (bd k hk) (by decide) (by decide) (by decide)
      have e2 : (2 : Int) * 2 ^ k = 2 ^ (k + 1) := by rw [Int.pow_succ, Int.mul_comm]
      rw [e2] at m2
      by_cases h : (2 : Int) ^ k * 2 ^ k ≤ u
      · right
        have hk2 := hpow k h
        have c : decide ((2 : Int) ^ k * 2 ^ k ≤ u) = true := decide_eq_true h
        refine ⟨?_, 2000 - (k + 1), _, _, by omega, .inl ?_, k + 1, rfl, rfl, by omega, rfl⟩
        · generalize (2 : Int) ^ k = p at *
          repeat (first | walk_at "sem1" | simp only [m1, c])
        · generalize (2 : Int) ^ (k + 1) = p2 at *
          generalize (2 : Int) ^ k = p at *
          unfold b__law_whole_3
          repeat (first | walk_at "sem1" | simp only [m2])
      · left
        have c : decide ((2 : Int) ^ k * 2 ^ k ≤ u) = false := decide_eq_false h
        generalize (2 : Int) ^ k = p at *
        repeat (first | walk_at "sem1" | simp only [m1, c]))
    2000 [some (.int u), some (.int 0), some (.int 1)] s ⟨0, rfl, rfl, by omega, rfl⟩
  subst el et
  refine ⟨k, ?_, hk, e⟩
  have m1 := mulB s' (bd k hk) (bd k hk) (by decide) (by decide) (by decide)
  rcases Int.lt_or_le u (2 ^ k * 2 ^ k) with z | z
  · exact z
  · exfalso
    have c : decide ((2 : Int) ^ k * 2 ^ k ≤ u) = true := decide_eq_true z
    have : mTest (mOp leD (mOp mulD (mVar 2) (mVar 2)) (mVar 0)) [some (.int u), some (.int 0), some (.int (2 ^ k))] s' = .ok true s' := by
      generalize (2 : Int) ^ k = p at *
      repeat (first | walk_at "sem1" | simp only [m1, c])
    rw [this] at hf
    cases hf
theorem lw_down {u : Int} (hu0 : 0 ≤ u) (hu : Bd 2000 u) (s : Sto) {k : Nat} (hk : u < 2 ^ k * 2 ^ k) (hk2 : k ≤ 2000) :
    ∃ q : Int, 0 ≤ q ∧ q * q ≤ u ∧ u < (q + 1) * (q + 1) ∧ l__law_whole_5 [some (.int u), some (.int 0), some (.int (2 ^ k))] s = .nx [some (.int u), some (.int q), some (.int 0)] s := by
  have hq : ∀ q : Int, 0 ≤ q → q * q ≤ u → Bd 2000 q := fun q h0 h => by
    unfold Bd
    have h1 : q ≤ u ∨ q ≤ 0 := by
      rcases Int.lt_or_le 0 q with z | z
      · left
        have : q * 1 ≤ q * q := Int.mul_le_mul_of_nonneg_left (by omega) h0
        omega
      · exact .inr z
    have h2 : (0 : Nat) < 2 ^ 2000 := Nat.pow_pos (by decide)
    unfold Bd at hu
    generalize (2 : Nat) ^ 2000 = m at *
    omega
  obtain ⟨n', l', s', e, ⟨q, st, el, et, q0, q1, hs, hn⟩, hf⟩ := while_inv (mc := mTest (mOp gtD (mVar 2) (mC (.int 0)))) (mb := b__law_whole_5)
    (fun n l t => ∃ q st : Int, l = [some (.int u), some (.int q), some (.int st)] ∧ t = s ∧ 0 ≤ q ∧ q * q ≤ u ∧ ((∃ j : Nat, st = 2 ^ j ∧ j ≤ 2000 ∧ u < (q + 2 * 2 ^ j) * (q + 2 * 2 ^ j)) ∨ st = 0 ∧ u < (q + 1) * (q + 1)) ∧ n = st.toNat)
    (fun n l t ⟨q, st, el, et, q0, q1, hs, hn⟩ => by
      subst el et
      rcases hs with ⟨j, rfl, hj, hlt⟩ | ⟨rfl, hlt⟩
      · right
        have hp := two_pow_pos j
        have c : decide ((0 : Int) < 2 ^ j) = true := decide_eq_true hp
        have hbj : Bd 2001 (2 ^ j) := by
          unfold Bd
          rw [Int.natAbs_pow]
          exact Nat.pow_lt_pow_right (by decide) (by omega)
        have hsum : Bd 2002 (q + 2 ^ j) := ((hq q q0 q1).mono (by decide)).add hbj
        have m1 := mulB t hsum hsum (by decide) (by decide) (by decide)
        have d1 := fdivB (i := 2 ^ j) t (show Bd 10 2 by decide) (by decide) (by decide) (by decide)
        have hst : ∃ st' : Int, (2 ^ j : Int).fdiv 2 = st' ∧ (∀ q' : Int, u < (q' + 2 ^ j) * (q' + 2 ^ j) → ((∃ i : Nat, st' = 2 ^ i ∧ i ≤ 2000 ∧ u < (q' + 2 * 2 ^ i) * (q' + 2 * 2 ^ i)) ∨ st' = 0 ∧ u < (q' + 1) * (q' + 1))) ∧ st'.toNat < (2 ^ j : Int).toNat := by
          cases j with
          | zero => exact ⟨0, by decide, fun q' h => .inr ⟨rfl, h⟩, by decide⟩
          | succ i =>
            have e2 : (2 : Int) ^ (i + 1) = 2 * 2 ^ i := by rw [Int.pow_succ, Int.mul_comm]
            have hi := two_pow_pos i
            refine ⟨2 ^ i, ?_, fun q' h => .inl ⟨i, rfl, by omega, by rw [e2] at h; exact h⟩, ?_⟩
            · rw [e2, Int.fdiv_eq_ediv_of_nonneg _ (by decide), Int.mul_ediv_cancel_left _ (by decide)]
            · rw [e2]; omega
        obtain ⟨st', e1, h1, h2⟩ := hst
        rw [e1] at d1
        by_cases h : (q + 2 ^ j) * (q + 2 ^ j) ≤ u
        · have c2 : decide ((q + 2 ^ j) * (q + 2 ^ j) ≤ u) = true := decide_eq_true h
          refine ⟨?_, st'.toNat, [some (.int u), some (.int (q + 2 ^ j)), some (.int st')], t, by omega, .inl ?_, q + 2 ^ j, st', rfl, rfl, by omega, h, h1 _ (by rw [show q + 2 ^ j + 2 ^ j = q + 2 * 2 ^ j by omega]; exact hlt), rfl⟩
          · generalize (2 : Int) ^ j = p at *
            repeat (first | walk_at "sem1" | simp only [c])
          · generalize (2 : Int) ^ j = p at *
            unfold b__law_whole_5
            simp only [t__law_whole_8]
            repeat (first | walk_at "sem1" | simp only [m1, c2, d1])
        · have c2 : decide ((q + 2 ^ j) * (q + 2 ^ j) ≤ u) = false := decide_eq_false h
          refine ⟨?_, st'.toNat, [some (.int u), some (.int q), some (.int st')], t, by omega, .inl ?_, q, st', rfl, rfl, q0, q1, h1 _ (by omega), rfl⟩
          · generalize (2 : Int) ^ j = p at *
            repeat (first | walk_at "sem1" | simp only [c])
          · generalize (2 : Int) ^ j = p at *
            unfold b__law_whole_5
            simp only [t__law_whole_8]
            repeat (first | walk_at "sem1" | simp only [m1, c2, d1])
      · left
        have c : decide ((0 : Int) < 0) = false := by decide
        repeat (first | walk_at "sem1" | simp only [c]))
    (2 ^ k : Int).toNat [some (.int u), some (.int 0), some (.int (2 ^ k))] s
    ⟨0, 2 ^ k, rfl, rfl, by omega, by omega, .inl ⟨k, rfl, hk2, by
      have hp := two_pow_pos k
      generalize (2 : Int) ^ k = p at *
      have h1 : p * p ≤ (0 + 2 * p) * (0 + 2 * p) := Int.mul_le_mul (by omega) (by omega) (by omega) (by omega)
      omega⟩, rfl⟩
  subst el et
  rcases hs with ⟨j, rfl, hj, hlt⟩ | ⟨rfl, hlt⟩
  · exfalso
    have c : decide ((0 : Int) < 2 ^ j) = true := decide_eq_true (two_pow_pos j)
    have : mTest (mOp gtD (mVar 2) (mC (.int 0))) [some (.int u), some (.int q), some (.int (2 ^ j))] s' = .ok true s' := by
      generalize (2 : Int) ^ j = p at *
      repeat (first | walk_at "sem1" | simp only [c])
    rw [this] at hf
    cases hf
  · exact ⟨q, q0, q1, hlt, e⟩
theorem whole_ok {u : Int} (hu0 : 0 ≤ u) (hu : Bd 1000 u) (s : Sto) : ∃ q : Int, 0 ≤ q ∧ q * q ≤ u ∧ u < (q + 1) * (q + 1) ∧ r__law_whole [.int u] s = .ok (if q * q = u then .int q else .non) s := by
  obtain ⟨k, k1, k2, e1⟩ := lw_up hu0 (hu.mono (by decide)) s
  obtain ⟨q, q0, q1, q2, e2⟩ := lw_down hu0 (hu.mono (by decide)) s k1 k2
  refine ⟨q, q0, q1, q2, ?_⟩
  have hq : Bd 1001 q := by
    unfold Bd at hu ⊢
    have h1 : q ≤ u ∨ q ≤ 0 := by
      rcases Int.lt_or_le 0 q with z | z
      · left
        have : q * 1 ≤ q * q := Int.mul_le_mul_of_nonneg_left (by omega) q0
        omega
      · exact .inr z
    have e1 : (2 : Nat) ^ 1001 = 2 ^ 1000 * 2 := by rw [← Nat.pow_succ]
    have e2 : (0 : Nat) < 2 ^ 1000 := Nat.pow_pos (by decide)
    rw [e1]
    generalize (2 : Nat) ^ 1000 = m at *
    omega
  have m1 := mulB s hq hq (by decide) (by decide) (by decide)
  unfold r__law_whole
  simp only [t__law_whole_2, t__law_whole_3, t__law_whole_5, t__law_whole_9]
  generalize (2 : Int) ^ k = pk at *
  have key : ∀ lp lq : MS, lp [some (.int u), some (.int 0), some (.int 1)] s = .nx [some (.int u), some (.int 0), some (.int pk)] s → lq [some (.int u), some (.int 0), some (.int pk)] s = .nx [some (.int u), some (.int q), some (.int 0)] s →
      mDef backF 1 3 (mSeq (mAsg (mC (.int 0)) (mgName 1)) (mSeq (mAsg (mC (.int 1)) (mgName 2)) (mSeq lp (mSeq lq (mRet (mIf (mTest (mOp eqD (mOp mulD (mVar 1) (mVar 1)) (mVar 0))) (mVar 1) (mC .non))))))) [.int u] s = .ok (if q * q = u then .int q else .non) s := fun lp lq h1 h2 => by
    by_cases hh : q * q = u
    · have c : (q * q == u) = true := by simp [hh]
      rw [if_pos hh]
      repeat (first | walk_at "sem1" | simp only [h1, h2, m1, c])
    · have c : (q * q == u) = false := by simp [hh]
      rw [if_neg hh]
      repeat (first | walk_at "sem1" | simp only [h1, h2, m1, c])
  exact key _ _ e1 e2
/-! ### what is seen with an open and with a short end -/
def hiV (L : List Part) (n : Nat) : Rat := (aft L (n + 1) none).getD 0
def loV (L : List Part) (n : Nat) : Rat := (aft L n (some 0)).getD 0
theorem nn0 : nn (some 0) := Rat.le_refl
section
variable {L : List Part} (h : Both L)
include h
theorem hi_some (n : Nat) : aft L (n + 1) none = some (hiV L n) := by
  have f := falls h.ok h.bes n
  unfold hiV
  cases e : aft L (n + 1) none with
  | none => rw [e] at f; cases f
  | some a => rfl
theorem hi_falls (n : Nat) : hiV L (n + 1) < hiV L n := by
  have f : olt (aft L (n + 1 + 1) none) (aft L (n + 1) none) := falls h.ok h.bes (n + 1)
  rw [hi_some h (n + 1), hi_some h n] at f
  exact f
theorem hi_le {k m : Nat} (hk : k ≤ m) : hiV L m ≤ hiV L k := by
  induction m with
  | zero => rw [show k = 0 by omega]; exact Rat.le_refl
  | succ m ih =>
    by_cases e : k = m + 1
    · rw [e]; exact Rat.le_refl
    · have := ih (by omega)
      have := hi_falls h m
      grind
theorem lo_some (n : Nat) : aft L n (some 0) = some (loV L n) := by
  obtain ⟨b, e⟩ := aft_some (L := L) n 0
  unfold loV
  rw [e]; rfl
theorem lo_nn (n : Nat) : 0 ≤ loV L n := by
  have := aft_nn h.ok n nn0
  rw [lo_some h] at this
  exact this
theorem lo_rises (n : Nat) : loV L n < loV L (n + 1) := by
  obtain ⟨y, h1, h2, h3, h4⟩ := one_mx h.ok (x := 0) Rat.le_refl
  have hb : (0 : Rat) < ((mx L).b : Rat) := Rat.intCast_pos.mpr (mx_b h.ok h.row)
  have hy : 0 < y := by
    rcases (show 0 < y ∨ y = 0 by grind) with z | z
    · exact z
    · rw [z, Rat.mul_zero, Rat.mul_zero] at h3; grind
  have hlt : olt (some 0) (one L (some 0)) := by rw [h1]; exact hy
  have := aft_mono h.ok n nn0 (one_nn h.ok nn0) hlt
  rw [lo_some h n, show aft L n (one L (some 0)) = aft L (n + 1) (some 0) from rfl, lo_some h (n + 1)] at this
  exact this
theorem hi_pos (n : Nat) : 0 < hiV L n := by
  have := apart h.ok (n + 1)
  rw [lo_some h, hi_some h] at this
  have := lo_nn h (n + 1)
  have : loV L (n + 1) < hiV L n := by assumption
  grind
theorem cmp_hi (n : Nat) : cmpR (rt L) (hiV L n) = -1 := by
  have hp := hi_pos h n
  have e : one L (some (hiV L n)) = some (hiV L (n + 1)) := by rw [← hi_some h n, ← aft_succ, hi_some h (n + 1)]
  obtain ⟨k, k0, e2⟩ := rt_sign h (Rat.le_of_lt hp) e
  have hf := hi_falls h n
  have : 0 < fx (rt L) (hiV L n) := by rw [e2]; exact Rat.mul_pos k0 (by grind)
  unfold cmpR sg
  rw [if_neg (by grind), if_neg (by grind), if_pos this]
theorem cmp_lo (n : Nat) : cmpR (rt L) (loV L n) = 1 := by
  unfold cmpR sg
  by_cases h0 : loV L n ≤ 0
  · rw [if_pos h0]
  · have e : one L (some (loV L n)) = some (loV L (n + 1)) := by rw [← lo_some h n, ← aft_succ, lo_some h (n + 1)]
    obtain ⟨k, k0, e2⟩ := rt_sign h (lo_nn h n) e
    have hf := lo_rises h n
    have : fx (rt L) (loV L n) < 0 := by
      rw [e2]
      have := Rat.mul_pos k0 (show 0 < loV L (n + 1) - loV L n by grind)
      grind
    rw [if_neg h0, if_pos this]; rfl
theorem sm_aft (h5 : L.length ≤ 5) {m : Nat} (hm : m ≤ 9) {x : Option Rat} (hx : nn x) (sx : smo 1 x) : smo 200 (aft L m x) := by
  have := aft_sm h.ok m hx sx
  have m3 : 4 * L.length * m ≤ 20 * 9 := Nat.mul_le_mul (by omega) (by omega)
  cases e : aft L m x with
  | none => trivial
  | some a => rw [e] at this; exact Sm.mono this (by omega)
theorem sm_hi (h5 : L.length ≤ 5) {n : Nat} (hn : n ≤ 8) : Sm 200 (hiV L n) := by
  have := sm_aft h h5 (m := n + 1) (by omega) (x := none) trivial trivial
  rw [hi_some h] at this
  exact this
theorem sm_lo (h5 : L.length ≤ 5) {n : Nat} (hn : n ≤ 9) : Sm 200 (loV L n) := by
  have := sm_aft h h5 (m := n) hn nn0 ⟨by decide, by decide⟩
  rw [lo_some h] at this
  exact this
end
theorem lafter_hi {L : List Part} (h : Both L) (h5 : L.length ≤ 5) {n : Nat} (hn : n ≤ 8) (s : Sto) : r__law_after [ladD L, .int ((n + 1 : Nat) : Int), .non] s = .ok (fr (hiV L n)) s := by
  have m3 : 4 * L.length * (n + 1) ≤ 20 * 9 := Nat.mul_le_mul (by omega) (by omega)
  have := lafter_ok h.ok (n := n + 1) (by omega) (x := none) (N := 1) trivial trivial (by decide) (by omega) s
  rw [hi_some h] at this
  exact this
theorem lafter_lo {L : List Part} (h : Both L) (h5 : L.length ≤ 5) {n : Nat} (hn : n ≤ 9) (s : Sto) : r__law_after [ladD L, .int (n : Int), .tup [.int 0, .int 1]] s = .ok (fr (loV L n)) s := by
  have m3 : 4 * L.length * n ≤ 20 * 9 := Nat.mul_le_mul (by omega) (by omega)
  have := lafter_ok h.ok (n := n) (by omega) (x := some 0) (N := 1) nn0 ⟨by decide, by decide⟩ (by decide) (by omega) s
  rw [lo_some h] at this
  exact this
theorem compare_ok {r : Rt} (hr : SzR r) (hp : Prim r) {x : Rat} {N : Nat} (hx : Sm N x) (hN : 0 < N) (h9 : N ≤ 100000) (s : Sto) : r_compare [rootD r, fr x] s = .ok (.int (cmpR r x)) s := by
  have e1 := look_rt hr hp s
  have e2 := isnum_fr x s
  have e3 := cmpby_ok hr hx hN h9 s
  unfold r_compare
  generalize rootD r = rd at *
  generalize fr x = f at *
  repeat (first | walk_at "sem1" | simp only [e1, e2, e3])
/-! ### parts_enough -/
theorem pe_head {L : List Part} (h : Both L) (h1 : 1 ≤ L.length) (h5 : L.length ≤ 5) {x : Rat} {N : Nat} (hx : Sm N x) (hN : 0 < N) (h9 : N ≤ 100000) (s : Sto) :
    (cmpR (rt L) x = 1 → r_parts_enough [ladD L, fr x] s = .ok .non s) ∧
    (cmpR (rt L) x = -1 → r_parts_enough [ladD L, fr x] s = backF s.length (outR (t_parts_enough_7 [some (ladD L), some (fr x), some (rootD (rt L)), some .non, none] s))) := by
  obtain ⟨hr, hp⟩ := rt_sz h (by omega)
  have e1 := endless_ok h h1 (by omega) s
  have e2 := isnum_fr x s
  have e3 := cmpby_ok hr hx hN h9 s
  constructor
  · intro hc
    rw [hc] at e3
    have c : decide ((0 : Int) ≤ 1) = true := rfl
    unfold r_parts_enough
    simp only [t_parts_enough_2, t_parts_enough_4]
    generalize rootD (rt L) = rd at *
    generalize fr x = f at *
    generalize ladD L = ld at *
    generalize t_parts_enough_6 = rest at *
    repeat (first | walk_at "sem1" | simp only [e1, e2, e3, c])
  · intro hc
    rw [hc] at e3
    have c : decide ((0 : Int) ≤ -1) = false := rfl
    unfold r_parts_enough
    simp only [t_parts_enough_2, t_parts_enough_4, t_parts_enough_6]
    generalize rootD (rt L) = rd at *
    generalize fr x = f at *
    generalize ladD L = ld at *
    have key : ∀ rest : MS, mDef backF 2 5 (mSeq (mAsg (mCall 1 r_endless (mCons (mVar 0) mNil)) (mgName 2)) (mSeq (mIfS (mNot (mTest (mCall 1 r_is_number (mCons (mVar 1) mNil)))) (mRaise "BadValue") mNext) (mSeq (mIfS (mTest (mOp geD (mCall 2 r_compare_by (mCons (mVar 2) (mCons (mVar 1) mNil))) (mC (.int 0)))) (mRet (mC .non)) mNext) (mSeq (mAsg (mC .non) (mgName 3)) rest)))) [ld, f] s = backF s.length (outR (rest [some ld, some f, some rd, some .non, none] s)) := fun rest => by
      simp only [mDef, List.length_cons, List.length_nil, Nat.reduceAdd, if_true, List.map_cons, List.map_nil, Nat.reduceSub, List.replicate_succ, List.replicate_zero, List.cons_append, List.nil_append]
      congr 1
      congr 1
      simp only [mSeq, mAsg, mCall, mCons, mVar, List.getElem?_cons_zero, List.getElem?_cons_succ, R.bind_ok, mNil, List.length_cons, List.length_nil, Nat.reduceAdd, if_true, e1, mgName, List.set_cons_zero, List.set_cons_succ, toOut, mIfS, mNot, mTest, e2, Bool.not_true, mNext, mOp, e3, mC, cmpD, c]
    exact key _
theorem pe_loop {L : List Part} (h : Both L) (h5 : L.length ≤ 5) {m : Nat} (hm : m ≤ 7) (x2 : Option D) (s : Sto) : ∀ (j k n : Nat) (x4 : Option D), k + j = m + 2 → j < n →
    forL (mgName 4) b_parts_enough_7 ((List.range' k n).map fun (i : Nat) => D.int (i : Int)) [some (ladD L), some (fr (hiV L m)), x2, some (opD (aft L k none)), x4] s = .rt (.int ((m + 2 : Nat) : Int)) s
  | 0, k, n, x4, hk, hn => by
    obtain ⟨n, rfl⟩ : ∃ n', n = n' + 1 := ⟨n - 1, by omega⟩
    have hk : k = m + 2 := by omega
    subst hk
    have e0 : aft L (m + 2) none = some (hiV L (m + 1)) := hi_some h (m + 1)
    have e1 := less_ok s (sm_hi h h5 (n := m + 1) (by omega)) (sm_hi h h5 (n := m) (by omega)) (by decide) (by decide) (by decide)
    rw [decide_eq_true (hi_falls h m)] at e1
    have nn : notND (fr (hiV L (m + 1))) .non s = .ok (.bl true) s := rfl
    rw [e0, List.range'_succ, List.map_cons]
    have e2 : b_parts_enough_7 [some (ladD L), some (fr (hiV L m)), x2, some (fr (hiV L (m + 1))), some (.int ((m + 2 : Nat) : Int))] s = .rt (.int ((m + 2 : Nat) : Int)) s := by
      unfold b_parts_enough_7
      generalize ((m + 2 : Nat) : Int) = mm at *
      generalize fr (hiV L (m + 1)) = f1 at *
      generalize fr (hiV L m) = f2 at *
      generalize ladD L = ld at *
      generalize t_parts_enough_10 = rest at *
      repeat (first | walk_at "sem1" | simp only [nn, e1])
    have e3 : opD (some (hiV L (m + 1))) = fr (hiV L (m + 1)) := rfl
    simp only [forL, mgName, List.set_cons_zero, List.set_cons_succ, e3, e2]
  | j + 1, k, n, x4, hk, hn => by
    obtain ⟨n, rfl⟩ : ∃ n', n = n' + 1 := ⟨n - 1, by omega⟩
    have ih := pe_loop h h5 hm x2 s j (k + 1) n (some (.int (k : Nat))) (by omega) (by omega)
    have m3 : 4 * L.length * k ≤ 20 * 8 := Nat.mul_le_mul (by omega) (by omega)
    have snn : nn (aft L k none) := aft_nn h.ok k trivial
    have sk := sm_aft h h5 (m := k) (by omega) (x := none) trivial trivial
    have ea := aoa_ok (N := 200) h.ok snn sk (by decide) (by omega) s
    rw [← aft_succ] at ea
    rw [List.range'_succ, List.map_cons]
    have e2 : b_parts_enough_7 [some (ladD L), some (fr (hiV L m)), x2, some (opD (aft L k none)), some (.int (k : Nat))] s = .nx [some (ladD L), some (fr (hiV L m)), x2, some (opD (aft L (k + 1) none)), some (.int (k : Nat))] s := by
      unfold b_parts_enough_7
      simp only [t_parts_enough_10]
      cases k with
      | zero =>
        have n0 : notND (opD (aft L 0 none)) .non s = .ok (.bl false) s := rfl
        generalize opD (aft L 0 none) = o at *
        generalize opD (aft L (0 + 1) none) = o2 at *
        generalize fr (hiV L m) = f2 at *
        generalize ladD L = ld at *
        repeat (first | walk_at "sem1" | simp only [n0, ea])
      | succ k =>
        have e1 := less_ok s (sm_hi h h5 (n := k) (by omega)) (sm_hi h h5 (n := m) (by omega)) (by decide) (by decide) (by decide)
        have hle := hi_le h (show k ≤ m by omega)
        rw [decide_eq_false (show ¬ hiV L k < hiV L m by grind)] at e1
        have n0 : notND (opD (aft L (k + 1) none)) .non s = .ok (.bl true) s := by rw [hi_some h k]; rfl
        have e3 : opD (aft L (k + 1) none) = fr (hiV L k) := by rw [hi_some h k]; rfl
        rw [← e3] at e1
        generalize opD (aft L (k + 1) none) = o at *
        generalize opD (aft L (k + 1 + 1) none) = o2 at *
        generalize fr (hiV L m) = f2 at *
        generalize ladD L = ld at *
        repeat (first | walk_at "sem1" | simp only [n0, e1, ea])
    simp only [forL, mgName, List.set_cons_zero, List.set_cons_succ, e2]
    exact ih
theorem pe_hi {L : List Part} (h : Both L) (h1 : 1 ≤ L.length) (h5 : L.length ≤ 5) {m : Nat} (hm : m ≤ 7) (s : Sto) : r_parts_enough [ladD L, fr (hiV L m)] s = .ok (.int ((m + 2 : Nat) : Int)) s := by
  rw [(pe_head h h1 h5 (sm_hi h h5 (n := m) (by omega)) (by decide) (by decide) s).2 (cmp_hi h m)]
  have hl := pe_loop h h5 hm (some (rootD (rt L))) s (m + 2) 0 41 none (by omega) (by omega)
  have hl2 : l_parts_enough_7 [some (ladD L), some (fr (hiV L m)), some (rootD (rt L)), some .non, none] s = .rt (.int ((m + 2 : Nat) : Int)) s := by
    unfold l_parts_enough_7
    rw [for_ok (rng1_ok (n := 41) (s1 := s) rfl (by omega))]
    have : rangeD 0 41 = (List.range' 0 41).map fun (i : Nat) => D.int (i : Int) := by
      unfold rangeD
      rw [List.range_eq_range']
      exact List.map_congr_left fun i _ => by rw [Int.zero_add]
    rw [this]
    exact hl
  have : t_parts_enough_7 [some (ladD L), some (fr (hiV L m)), some (rootD (rt L)), some .non, none] s = .rt (.int ((m + 2 : Nat) : Int)) s := by
    unfold t_parts_enough_7
    rw [mSeq, hl2]
  rw [this]
  exact backF_eq rfl
theorem pe_lo {L : List Part} (h : Both L) (h1 : 1 ≤ L.length) (h5 : L.length ≤ 5) {m : Nat} (hm : m ≤ 9) (s : Sto) : r_parts_enough [ladD L, fr (loV L m)] s = .ok .non s :=
  (pe_head h h1 h5 (sm_lo h h5 hm) (by decide) (by decide) s).1 (cmp_lo h m)
theorem pe_zero {L : List Part} (h : Both L) (h1 : 1 ≤ L.length) (h5 : L.length ≤ 5) (s : Sto) : r_parts_enough [ladD L, .tup [.int 0, .int 1]] s = .ok .non s :=
  (pe_head h h1 h5 (x := 0) (sm_zero 1 (by decide)) (by decide) (by decide) s).1 (by unfold cmpR; rw [if_pos Rat.le_refl])
/-! ### what is told -/
noncomputable abbrev toldFs : List (String × Nat × MF) := [("common", 2, r_common), ("parts_enough", 2, r_parts_enough), ("endless", 1, r_endless)]
theorem lk1 (m1 m2 m3 : MS) : ([("BadValue", m1), ("NoSuch", m2), ("TooFar", m3)] : List (String × MS)).lookup "BadValue" = some m1 := rfl
theorem lk2 (m1 m2 m3 : MS) : ([("BadValue", m1), ("NoSuch", m2), ("TooFar", m3)] : List (String × MS)).lookup "NoSuch" = some m2 := rfl
theorem tk1 : toldFs.lookup "endless" = some (1, r_endless) := rfl
theorem tk2 : toldFs.lookup "parts_enough" = some (2, r_parts_enough) := rfl
theorem told_end {a : D} {s : Sto} {x w : String} (hw : x = "BadValue" ∧ w = "value" ∨ x = "NoSuch" ∧ w = "none") (h : r_endless [a] s = .ex ⟨x, none⟩ s) : r__law_told [.fn "endless", .tup [a]] s = .ok (.str w) s := by
  have hl : lenF [.tup [a]] s = .ok (.int 1) s := rfl
  have x0 : ixD (.tup [a]) (.int 0) s = .ok a s := rfl
  have tk := tk1
  unfold r__law_told
  rcases hw with ⟨rfl, rfl⟩ | ⟨rfl, rfl⟩
  · repeat (first | walk_at "sem1" | simp only [mTry, mCallV, hl, x0, tk, h, lk1, noExO])
  · repeat (first | walk_at "sem1" | simp only [mTry, mCallV, hl, x0, tk, h, lk2, noExO])
theorem told_pe {a b : D} {s : Sto} {x w : String} (hw : x = "BadValue" ∧ w = "value" ∨ x = "NoSuch" ∧ w = "none") (h : r_parts_enough [a, b] s = .ex ⟨x, none⟩ s) : r__law_told [.fn "parts_enough", .tup [a, b]] s = .ok (.str w) s := by
  have hl : lenF [.tup [a, b]] s = .ok (.int 2) s := rfl
  have c3 : ((2 : Int) == 1) = false := by decide
  have x0 : ixD (.tup [a, b]) (.int 0) s = .ok a s := rfl
  have x1 : ixD (.tup [a, b]) (.int 1) s = .ok b s := rfl
  have tk := tk2
  unfold r__law_told
  rcases hw with ⟨rfl, rfl⟩ | ⟨rfl, rfl⟩
  · repeat (first | walk_at "sem1" | simp only [mTry, mCallV, hl, c3, x0, x1, tk, h, lk1, noExO])
  · repeat (first | walk_at "sem1" | simp only [mTry, mCallV, hl, c3, x0, x1, tk, h, lk2, noExO])
theorem told_pe_ok {a b d : D} {s : Sto} (h : r_parts_enough [a, b] s = .ok d s) : r__law_told [.fn "parts_enough", .tup [a, b]] s = .ok d s := by
  have hl : lenF [.tup [a, b]] s = .ok (.int 2) s := rfl
  have c3 : ((2 : Int) == 1) = false := by decide
  have x0 : ixD (.tup [a, b]) (.int 0) s = .ok a s := rfl
  have x1 : ixD (.tup [a, b]) (.int 1) s = .ok b s := rfl
  have tk := tk2
  unfold r__law_told
  repeat (first | walk_at "sem1" | simp only [mTry, mCallV, hl, c3, x0, x1, tk, h, noExO])
/-! ### one case -/
noncomputable def wb (b : Bool) (d : D) : Bool := match d with
  | .tup (w :: _) => @decide (w = wordD b) (Classical.propDecidable _)
  | _ => false
theorem word_inj {b c : Bool} (h : wordD b = wordD c) : b = c := by
  have h1 := word_row b []
  have h2 := word_row c []
  rw [h, h2] at h1
  cases h1
  rfl
theorem wb_part (b : Bool) (p : Part) : wb b (partD p) = (p.1 == b) := by
  show @decide (wordD p.1 = wordD b) (Classical.propDecidable _) = _
  by_cases h : p.1 = b
  · rw [h, beq_self_eq_true]; exact @decide_eq_true _ (Classical.propDecidable _) rfl
  · rw [beq_eq_false_iff_ne.mpr h]
    exact @decide_eq_false _ (Classical.propDecidable _) (fun e => h (word_inj e))
theorem lad_filter (L : List Part) (b : Bool) : (L.map partD).filter (wb b) = (L.filter fun p => p.1 == b).map partD := by
  rw [List.filter_map]
  congr 1
  exact List.filter_congr fun p _ => wb_part b p
theorem part_lc {L : List Part} (hl : L.length ≤ 100000) (b : Bool) (l : DL.Loc) (h1 : l[1]? = some (some (ladD L))) (hlen : l.length = 20) (s : Sto) :
    mLc [18] (mIter (mVar 1)) (mgName 18) (mTest (mOp eqD (mOp ixD (mVar 18) (mC (.int 0))) (mC (wordD b)))) (mVar 18) l s = .ok (.lst ((L.filter fun p => p.1 == b).map partD)) s := by
  have hi : mIter (mVar 1) l s = .ok (L.map partD) s := by
    simp only [mIter, mVar, h1, R.bind_ok, ladD, stands]
  have h2 := lcL_filter (tg := mgName 18) (tt := mTest (mOp eqD (mOp ixD (mVar 18) (mC (.int 0))) (mC (wordD b)))) (me := mVar 18) (l := l.set 18 none) (s := s) (wb b) id (ds := L.map partD) (fun d hd => by
    obtain ⟨p, _, rfl⟩ := List.mem_map.mp hd
    refine ⟨(l.set 18 none).set 18 (some (partD p)), rfl, ?_, fun _ => ?_⟩
    · have g : ((l.set 18 none).set 18 (some (partD p)))[18]? = some (some (partD p)) := by
        rw [List.getElem?_set_self (by rw [List.length_set]; omega)]
      have i0 : ixD (partD p) (.int 0) s = .ok (wordD p.1) s := rfl
      have e : eqD (wordD p.1) (wordD b) s = .ok (.bl (p.1 == b)) s := by
        by_cases h : p.1 = b
        · rw [h, beq_self_eq_true]; exact eqD_yes 1 rfl (plN_word _) (by decide)
        · rw [beq_eq_false_iff_ne.mpr h]; exact eqD_no 1 (fun e => h (word_inj e)) (plN_word _) (plN_word _) (by decide)
      rw [wb_part]
      simp only [mTest, mOp, mVar, g, mC, R.bind_ok, i0, e]
    · have g : ((l.set 18 none).set 18 (some (partD p)))[18]? = some (some (partD p)) := by
        rw [List.getElem?_set_self (by rw [List.length_set]; omega)]
      simp only [mVar, g, id])
  rw [lad_filter, List.map_id] at h2
  exact lc_ok hi h2 (by rw [List.length_map]; exact Nat.le_trans (List.length_filter_le _ _) hl)
theorem okL_filter {L : List Part} (hL : okL L) (f : Part → Bool) : okL (L.filter f) := fun q hq => hL q (List.mem_filter.mp hq).1
theorem filter_one {L : List Part} {b : Bool} (h : ∃ p ∈ L, p.1 = b) : 1 ≤ (L.filter fun p => p.1 == b).length := by
  obtain ⟨p, hp, e⟩ := h
  exact List.length_pos_of_mem (List.mem_filter.mpr ⟨hp, by rw [e]; simp⟩)
theorem filter_kind {L : List Part} {b : Bool} : ¬ ((∃ p ∈ L.filter (fun p => p.1 == b), p.1 = true) ∧ (∃ p ∈ L.filter (fun p => p.1 == b), p.1 = false)) := by
  rintro ⟨⟨p, hp, e⟩, ⟨q, hq, f⟩⟩
  have h1 := eq_of_beq (List.mem_filter.mp hp).2
  have h2 := eq_of_beq (List.mem_filter.mp hq).2
  rw [e] at h1; rw [f] at h2; rw [← h1] at h2; cases h2
theorem t33 {L : List Part} (h : Both L) (h1 : 1 ≤ L.length) (h5 : L.length ≤ 5) (x0 x2 x3 x4 x5 x6 x7 x8 x9 x10 x11 x12 x13 x14 x17 x18 x19 : Option D) (s : Sto) :
    t__law_case_33 [x0, some (ladD L), x2, x3, x4, x5, x6, x7, x8, x9, x10, x11, x12, x13, x14, some (ladD (L.filter fun p => p.1 == true)), some (ladD (L.filter fun p => p.1 == false)), x17, x18, x19] s = .rt (.bl true) s := by
  have lr : (L.filter fun p => p.1 == true).length ≤ 5 := Nat.le_trans (List.length_filter_le _ _) h5
  have lb : (L.filter fun p => p.1 == false).length ≤ 5 := Nat.le_trans (List.length_filter_le _ _) h5
  have n1 := endless_none (okL_filter h.ok _) (filter_one h.row) (by omega) filter_kind s
  have n2 := endless_none (okL_filter h.ok _) (filter_one h.bes) (by omega) filter_kind s
  have g1 := told_end (.inr ⟨rfl, rfl⟩) n1
  have g2 := told_end (.inr ⟨rfl, rfl⟩) n2
  have p1 : r_parts_enough [ladD (L.filter fun p => p.1 == true), .tup [.int 1, .int 1]] s = .ex ⟨"NoSuch", none⟩ s := by
    unfold r_parts_enough
    generalize t_parts_enough_2 = rest
    generalize ladD (L.filter fun p => p.1 == true) = ld at *
    repeat (first | walk_at "sem1" | simp only [n1])
  have g3 := told_pe (.inr ⟨rfl, rfl⟩) p1
  -- what is none
  have bad : ∀ d, shp 5 d = true → isLad d = false → r__law_told [.fn "endless", .tup [d]] s = .ok (.str "value") s := fun d hd hb => told_end (.inl ⟨rfl, rfl⟩) (endless_bad hd hb s)
  have b1 := bad .non (by decide +kernel) (by decide +kernel)
  have b2 := bad (.tup []) (by decide +kernel) (by decide +kernel)
  have b3 := bad (.tup [.tup [.str "row", .tup [.int 0, .int 1]]]) (by decide +kernel) (by decide +kernel)
  have en := endless_ok h h1 (by omega) s
  have badn : ∀ d, r_is_number [d] s = .ok (.bl false) s → r__law_told [.fn "parts_enough", .tup [ladD L, d]] s = .ok (.str "value") s := fun d hd => told_pe (.inl ⟨rfl, rfl⟩) (by
    unfold r_parts_enough
    simp only [t_parts_enough_2]
    generalize rootD (rt L) = rd at *
    generalize ladD L = ld at *
    generalize t_parts_enough_4 = rest at *
    repeat (first | walk_at "sem1" | simp only [en, hd]))
  have k1 := badn .non (by
    have it : isiF "tuple" .non s = .ok (.bl false) s := rfl
    unfold r_is_number
    repeat (first | walk_at "sem1" | simp only [it]))
  have k2 := badn (.tup [.int 2, .int 4]) (isnum_ok 2 4 s)
  have z0 : (0 : Nat) ≤ 100000 := by decide
  have z1 : (1 : Nat) ≤ 100000 := by decide
  have z2 : (2 : Nat) ≤ 100000 := by decide
  have z3 : (3 : Nat) ≤ 100000 := by decide
  generalize hA : ladD (L.filter fun p => p.1 == true) = lr at *
  generalize hB : ladD (L.filter fun p => p.1 == false) = lb at *
  generalize hC : ladD L = ld at *
  have c1 : mLc [19] (mIter (mLst (mCons (mVar 15) (mCons (mVar 16) mNil)))) (mgName 19) mYes (mCall 2 r__law_told (mCons (mC (.fn "endless")) (mCons (mTup (mCons (mVar 19) mNil)) mNil))) [x0, some ld, x2, x3, x4, x5, x6, x7, x8, x9, x10, x11, x12, x13, x14, some lr, some lb, x17, x18, x19] s = .ok (.lst [.str "none", .str "none"]) s := by
    have := lc_map (own := [19]) (mi := mIter (mLst (mCons (mVar 15) (mCons (mVar 16) mNil)))) (tg := mgName 19) (me := mCall 2 r__law_told (mCons (mC (.fn "endless")) (mCons (mTup (mCons (mVar 19) mNil)) mNil))) (l := [x0, some ld, x2, x3, x4, x5, x6, x7, x8, x9, x10, x11, x12, x13, x14, some lr, some lb, x17, x18, x19]) (s := s) (fun _ => .str "none") (ds := [lr, lb]) rfl (by show 2 ≤ 100000; decide) (fun d hd => by
      refine ⟨_, rfl, ?_⟩
      simp only [wipeD]
      simp only [List.mem_cons, List.not_mem_nil, or_false] at hd
      rcases hd with rfl | rfl
      · repeat (first | walk_at "sem1" | simp only [g1, z1])
      · repeat (first | walk_at "sem1" | simp only [g2, z1]))
    exact this
  have c2 : mLc [19] (mIter (mLst (mCons (mC .non) (mCons (mTup mNil) (mCons (mTup (mCons (mTup (mCons (mC (.str "row")) (mCons (mTup (mCons (mC (.int 0)) (mCons (mC (.int 1)) mNil))) mNil))) mNil)) mNil))))) (mgName 19) mYes (mCall 2 r__law_told (mCons (mC (.fn "endless")) (mCons (mTup (mCons (mVar 19) mNil)) mNil))) [x0, some ld, x2, x3, x4, x5, x6, x7, x8, x9, x10, x11, x12, x13, x14, some lr, some lb, x17, x18, x19] s = .ok (.lst [.str "value", .str "value", .str "value"]) s := by
    have := lc_map (own := [19]) (mi := mIter (mLst (mCons (mC .non) (mCons (mTup mNil) (mCons (mTup (mCons (mTup (mCons (mC (.str "row")) (mCons (mTup (mCons (mC (.int 0)) (mCons (mC (.int 1)) mNil))) mNil))) mNil)) mNil)))))  (tg := mgName 19) (me := mCall 2 r__law_told (mCons (mC (.fn "endless")) (mCons (mTup (mCons (mVar 19) mNil)) mNil))) (l := [x0, some ld, x2, x3, x4, x5, x6, x7, x8, x9, x10, x11, x12, x13, x14, some lr, some lb, x17, x18, x19]) (s := s) (fun _ => .str "value") (ds := [.non, .tup [], .tup [.tup [.str "row", .tup [.int 0, .int 1]]]]) rfl (by show 3 ≤ 100000; decide) (fun d hd => by
      refine ⟨_, rfl, ?_⟩
      simp only [wipeD]
      simp only [List.mem_cons, List.not_mem_nil, or_false] at hd
      rcases hd with rfl | rfl | rfl
      · repeat (first | walk_at "sem1" | simp only [b1, z1])
      · repeat (first | walk_at "sem1" | simp only [b2, z1])
      · repeat (first | walk_at "sem1" | simp only [b3, z1]))
    exact this
  have c3 : mLc [19] (mIter (mLst (mCons (mC .non) (mCons (mTup (mCons (mC (.int 2)) (mCons (mC (.int 4)) mNil))) mNil)))) (mgName 19) mYes (mCall 2 r__law_told (mCons (mC (.fn "parts_enough")) (mCons (mTup (mCons (mVar 1) (mCons (mVar 19) mNil))) mNil))) [x0, some ld, x2, x3, x4, x5, x6, x7, x8, x9, x10, x11, x12, x13, x14, some lr, some lb, x17, x18, x19] s = .ok (.lst [.str "value", .str "value"]) s := by
    have := lc_map (own := [19]) (mi := mIter (mLst (mCons (mC .non) (mCons (mTup (mCons (mC (.int 2)) (mCons (mC (.int 4)) mNil))) mNil)))) (tg := mgName 19) (me := mCall 2 r__law_told (mCons (mC (.fn "parts_enough")) (mCons (mTup (mCons (mVar 1) (mCons (mVar 19) mNil))) mNil))) (l := [x0, some ld, x2, x3, x4, x5, x6, x7, x8, x9, x10, x11, x12, x13, x14, some lr, some lb, x17, x18, x19]) (s := s) (fun _ => .str "value") (ds := [.non, .tup [.int 2, .int 4]]) rfl (by show 2 ≤ 100000; decide) (fun d hd => by
      refine ⟨_, rfl, ?_⟩
      simp only [wipeD]
      simp only [List.mem_cons, List.not_mem_nil, or_false] at hd
      rcases hd with rfl | rfl
      · repeat (first | walk_at "sem1" | simp only [k1, z2])
      · repeat (first | walk_at "sem1" | simp only [k2, z2]))
    exact this
  have m1 : mulD (.lst [.str "none"]) (.int 2) s = .ok (.lst [.str "none", .str "none"]) s := rfl
  have m2 : mulD (.lst [.str "value"]) (.int 3) s = .ok (.lst [.str "value", .str "value", .str "value"]) s := rfl
  have m3 : mulD (.lst [.str "value"]) (.int 2) s = .ok (.lst [.str "value", .str "value"]) s := rfl
  have q1 : neD (.lst [.str "none", .str "none"]) (.lst [.str "none", .str "none"]) s = .ok (.bl false) s := neD_no 2 rfl (by decide +kernel) (by decide)
  have q2 : neD (.str "none") (.str "none") s = .ok (.bl false) s := neD_no 1 rfl (by decide +kernel) (by decide)
  have q3 : eqD (.lst [.str "value", .str "value", .str "value"]) (.lst [.str "value", .str "value", .str "value"]) s = .ok (.bl true) s := eqD_yes 2 rfl (by decide +kernel) (by decide)
  have q4 : eqD (.lst [.str "value", .str "value"]) (.lst [.str "value", .str "value"]) s = .ok (.bl true) s := eqD_yes 2 rfl (by decide +kernel) (by decide)
  simp only [t__law_case_33, t__law_case_35]
  generalize D.lst [.str "none", .str "none"] = w1 at *
  generalize D.lst [.str "value", .str "value", .str "value"] = w2 at *
  generalize D.lst [.str "value", .str "value"] = w3 at *
  have key : ∀ (l1 l2 l3 : ME) (lc : DL.Loc), lc[15]? = some (some lr) → l1 lc s = .ok w1 s → l2 lc s = .ok w2 s → l3 lc s = .ok w3 s →
      mSeq (mIfS (mOr (mTest (mOp neD l1 (mOp mulD (mLst (mCons (mC (.str "none")) mNil)) (mC (.int 2))))) (mTest (mOp neD (mCall 2 r__law_told (mCons (mC (.fn "parts_enough")) (mCons (mTup (mCons (mVar 15) (mCons (mTup (mCons (mC (.int 1)) (mCons (mC (.int 1)) mNil))) mNil))) mNil))) (mC (.str "none"))))) (mRet (mC (.bl false))) mNext) (mRet (mAndV (mOp eqD l2 (mOp mulD (mLst (mCons (mC (.str "value")) mNil)) (mC (.int 3)))) (mOp eqD l3 (mOp mulD (mLst (mCons (mC (.str "value")) mNil)) (mC (.int 2)))))) lc s = .rt (.bl true) s := fun l1 l2 l3 lc h0 h1 h2 h3 => by
    repeat (first | walk_at "sem1" | simp only [h0, h1, h2, h3, m1, m2, m3, q1, q2, q3, q4, g3, z1, z2])
  exact key _ _ _ _ rfl c1 c2 c3
theorem t29 {L : List Part} (h : Both L) (h1 : 1 ≤ L.length) (h5 : L.length ≤ 5) {m : Nat} (hm : m ≤ 7) (x0 x2 x3 x4 x5 x6 x7 x8 x9 x10 x11 x12 x14 x15 x16 x17 x18 x19 : Option D) (s : Sto) :
    t__law_case_29 [x0, some (ladD L), x2, x3, x4, x5, x6, x7, x8, x9, x10, x11, x12, some (.int ((m + 1 : Nat) : Int)), x14, x15, x16, x17, x18, x19] s = .rt (.bl true) s := by
  have a1 := lafter_lo h h5 (n := m + 1) (by omega) s
  have p1 := told_pe_ok (pe_lo h h1 h5 (m := m + 1) (by omega) s)
  have p2 := told_pe_ok (pe_zero h h1 h5 s)
  have n0 : notND .non .non s = .ok (.bl false) s := rfl
  have z2 : (2 : Nat) ≤ 100000 := by decide
  have r1 := fun l a b => part_lc (L := L) (by omega) true l a b s
  have r2 := fun l a b => part_lc (L := L) (by omega) false l a b s
  have e33 := fun y18 => t33 h h1 h5 x0 x2 x3 x4 x5 x6 x7 x8 x9 x10 x11 x12 (some (.int ((m + 1 : Nat) : Int))) x14 x17 y18 x19 s
  have tp : ∀ M : List Part, tupleF [.lst (M.map partD)] s = .ok (ladD M) s := fun M => rfl
  have t1 := tp (L.filter fun p => p.1 == true)
  have t2 := tp (L.filter fun p => p.1 == false)
  simp only [t__law_case_29, t__law_case_31, t__law_case_32]
  generalize ((m + 1 : Nat) : Int) = mm at *
  have hw1 : (D.str "row") = wordD true := rfl
  have hw2 : (D.str "beside") = wordD false := rfl
  rw [hw1, hw2]
  generalize fr (loV L (m + 1)) = f1 at *
  generalize ladD (L.filter fun p => p.1 == true) = lr at *
  generalize ladD (L.filter fun p => p.1 == false) = lb at *
  generalize List.map partD (L.filter fun p => p.1 == true) = xr at *
  generalize List.map partD (L.filter fun p => p.1 == false) = xb at *
  have r1' := r1 [x0, some (ladD L), x2, x3, x4, x5, x6, x7, x8, x9, x10, x11, x12, some (.int mm), x14, x15, x16, x17, x18, x19] rfl rfl
  have r2' := r2 [x0, some (ladD L), x2, x3, x4, x5, x6, x7, x8, x9, x10, x11, x12, some (.int mm), x14, some lr, x16, x17, x18, x19] rfl rfl
  generalize ladD L = ld at *
  have key : ∀ (l1 l2 : ME) (t3 : MS), l1 [x0, some ld, x2, x3, x4, x5, x6, x7, x8, x9, x10, x11, x12, some (.int mm), x14, x15, x16, x17, x18, x19] s = .ok (.lst xr) s → l2 [x0, some ld, x2, x3, x4, x5, x6, x7, x8, x9, x10, x11, x12, some (.int mm), x14, some lr, x16, x17, x18, x19] s = .ok (.lst xb) s →
      t3 [x0, some ld, x2, x3, x4, x5, x6, x7, x8, x9, x10, x11, x12, some (.int mm), x14, some lr, some lb, x17, x18, x19] s = .rt (.bl true) s →
      mSeq (mIfS (mOr (mTest (mOp notND (mCall 2 r__law_told (mCons (mC (.fn "parts_enough")) (mCons (mTup (mCons (mVar 1) (mCons (mCall 3 r__law_after (mCons (mVar 1) (mCons (mVar 13) (mCons (mTup (mCons (mC (.int 0)) (mCons (mC (.int 1)) mNil))) mNil)))) mNil))) mNil))) (mC .non))) (mTest (mOp notND (mCall 2 r__law_told (mCons (mC (.fn "parts_enough")) (mCons (mTup (mCons (mVar 1) (mCons (mTup (mCons (mC (.int 0)) (mCons (mC (.int 1)) mNil))) mNil))) mNil))) (mC .non)))) (mRet (mC (.bl false))) mNext) (mSeq (mAsg (mCB tupleF (mCons l1 mNil)) (mgName 15)) (mSeq (mAsg (mCB tupleF (mCons l2 mNil)) (mgName 16)) t3)) [x0, some ld, x2, x3, x4, x5, x6, x7, x8, x9, x10, x11, x12, some (.int mm), x14, x15, x16, x17, x18, x19] s = .rt (.bl true) s := fun l1 l2 t3 k1 k2 k3 => by
    repeat (first | walk_at "sem1" | simp only [a1, p1, p2, n0, z2, k1, k2, k3, t1, t2])
  exact key _ _ _ r1' r2' (e33 x18)
theorem t24 {L : List Part} (h : Both L) (h1 : 1 ≤ L.length) (h5 : L.length ≤ 5) {m : Nat} (hm : m ≤ 6) (x0 x2 x3 x4 x5 x6 x7 x8 x9 x10 x11 x12 x14 x15 x16 x17 x18 x19 : Option D) (s : Sto) :
    t__law_case_24 [x0, some (ladD L), x2, x3, x4, x5, x6, x7, x8, x9, x10, x11, x12, some (.int ((m + 1 : Nat) : Int)), x14, x15, x16, x17, x18, x19] s = .rt (.bl true) s := by
  have a1 := lafter_hi h h5 (n := m) (by omega) s
  have p1 := told_pe_ok (pe_hi h h1 h5 (m := m) (by omega) s)
  have e29 := fun y9 y14 => t29 h h1 h5 (m := m) (by omega) x0 x2 x3 x4 x5 x6 x7 x8 y9 x10 x11 x12 y14 x15 x16 x17 x18 x19 s
  have nn : notND (fr (hiV L m)) .non s = .ok (.bl true) s := rfl
  have z2 : (2 : Nat) ≤ 100000 := by decide
  -- the first number of copies
  have hlc : mLc [17] (mRng2 (mCons (mC (.int 1)) (mCons (mOp addD (mVar 13) (mC (.int 2))) mNil))) (mgName 17) (mAnd (mTest (mOp notND (mCall 3 r__law_after (mCons (mVar 1) (mCons (mVar 17) (mCons (mC .non) mNil)))) (mC .non))) (mTest (mOp ltD (mOp ixD (mCall 2 r__law_sub (mCons (mCall 3 r__law_after (mCons (mVar 1) (mCons (mVar 17) (mCons (mC .non) mNil)))) (mCons (mVar 9) mNil))) (mC (.int 0))) (mC (.int 0))))) (mVar 17) [x0, some (ladD L), x2, x3, x4, x5, x6, x7, x8, some (fr (hiV L m)), x10, x11, x12, some (.int ((m + 1 : Nat) : Int)), x14, x15, x16, x17, x18, x19] s = .ok (.lst [.int ((m + 2 : Nat) : Int)]) s := by
    have hi : mRng2 (mCons (mC (.int 1)) (mCons (mOp addD (mVar 13) (mC (.int 2))) mNil)) [x0, some (ladD L), x2, x3, x4, x5, x6, x7, x8, some (fr (hiV L m)), x10, x11, x12, some (.int ((m + 1 : Nat) : Int)), x14, x15, x16, x17, x18, x19] s = .ok (rangeD 1 (m + 2)) s :=
      rng2_ok (lo := 1) (hi := ((m + 1 : Nat) : Int) + 2) (s1 := s) (s2 := s) rfl rfl (by omega) (by omega) (by omega) (by omega) (by omega)
    have h2 := lcL_filter (tg := mgName 17) (tt := mAnd (mTest (mOp notND (mCall 3 r__law_after (mCons (mVar 1) (mCons (mVar 17) (mCons (mC .non) mNil)))) (mC .non))) (mTest (mOp ltD (mOp ixD (mCall 2 r__law_sub (mCons (mCall 3 r__law_after (mCons (mVar 1) (mCons (mVar 17) (mCons (mC .non) mNil)))) (mCons (mVar 9) mNil))) (mC (.int 0))) (mC (.int 0))))) (me := mVar 17) (l := [x0, some (ladD L), x2, x3, x4, x5, x6, x7, x8, some (fr (hiV L m)), x10, x11, x12, some (.int ((m + 1 : Nat) : Int)), x14, x15, x16, none, x18, x19]) (s := s) (fun d => match d with | .int k => decide (k = ((m + 2 : Nat) : Int)) | _ => false) id (ds := rangeD 1 (m + 2)) (fun d hd => by
      obtain ⟨i, hi, rfl⟩ := rangeD_mem hd
      have hi1 : (1 : Int) + (i : Int) = ((i + 1 : Nat) : Int) := by omega
      rw [hi1]
      refine ⟨[x0, some (ladD L), x2, x3, x4, x5, x6, x7, x8, some (fr (hiV L m)), x10, x11, x12, some (.int ((m + 1 : Nat) : Int)), x14, x15, x16, some (.int ((i + 1 : Nat) : Int)), x18, x19], rfl, ?_, fun _ => rfl⟩
      have b1 := lafter_hi h h5 (n := i) (by omega) s
      have b2 := lsub_ok s (sm_hi h h5 (n := i) (by omega)) (sm_hi h h5 (n := m) (by omega)) (by decide) (by decide) (by decide)
      have b3 := ix0 (hiV L i - hiV L m) s
      have nb : notND (fr (hiV L i)) .non s = .ok (.bl true) s := rfl
      have hdec : decide ((hiV L i - hiV L m).num < 0) = decide (((i + 1 : Nat) : Int) = ((m + 2 : Nat) : Int)) := by
        by_cases e : i = m + 1
        · subst e
          have hf := hi_falls h m
          rw [decide_eq_true (by omega : ((m + 1 + 1 : Nat) : Int) = ((m + 2 : Nat) : Int)), decide_eq_true_eq]
          have : 0 < (hiV L m - hiV L (m + 1)).num := num_pos.mpr (by grind)
          have e2 : hiV L (m + 1) - hiV L m = -(hiV L m - hiV L (m + 1)) := by grind
          rw [e2, Rat.neg_num]; omega
        · have hle := hi_le h (show i ≤ m by omega)
          rw [decide_eq_false (by omega : ¬ ((i + 1 : Nat) : Int) = ((m + 2 : Nat) : Int)), decide_eq_false_iff_not]
          have : 0 ≤ hiV L i - hiV L m := by grind
          by_cases z : hiV L i - hiV L m = 0
          · rw [z]; decide
          · have := num_pos.mpr (show 0 < hiV L i - hiV L m by grind)
            omega
      show _ = R.ok (decide (((i + 1 : Nat) : Int) = ((m + 2 : Nat) : Int))) s
      rw [← hdec]
      generalize hnum : (hiV L i - hiV L m).num = nu at *
      generalize fr (hiV L i - hiV L m) = f3 at *
      generalize fr (hiV L i) = f1 at *
      generalize fr (hiV L m) = f2 at *
      generalize ladD L = ld at *
      generalize ((i + 1 : Nat) : Int) = ii at *
      repeat (first | walk_at "sem1" | simp only [b1, b2, b3, nb]))
    have hfil : (rangeD 1 (m + 2)).filter (fun d => match d with | .int k => decide (k = ((m + 2 : Nat) : Int)) | _ => false) = [.int ((m + 2 : Nat) : Int)] := by
      unfold rangeD
      rw [List.filter_map, show m + 2 = (m + 1) + 1 from rfl, List.range_succ, List.filter_append, List.map_append]
      have e1 : (List.range (m + 1)).filter ((fun d => match d with | .int k => decide (k = ((m + 1 + 1 : Nat) : Int)) | _ => false) ∘ fun (i : Nat) => D.int (1 + (i : Int))) = [] := by
        rw [List.filter_eq_nil_iff]
        intro i hi
        have := List.mem_range.mp hi
        simp only [Function.comp, decide_eq_true_eq]
        omega
      have e2 : [m + 1].filter ((fun d => match d with | .int k => decide (k = ((m + 1 + 1 : Nat) : Int)) | _ => false) ∘ fun (i : Nat) => D.int (1 + (i : Int))) = [m + 1] := by
        rw [List.filter_eq_self]
        intro i hi
        rw [List.mem_singleton] at hi
        subst hi
        simp only [Function.comp, decide_eq_true_eq]
        omega
      rw [e1, e2]
      simp only [List.map_nil, List.nil_append, List.map_cons]
      congr 2
      omega
    rw [hfil, List.map_id] at h2
    exact lc_ok hi h2 (by show 1 ≤ 100000; decide)
  have i0 : ixD (.lst [.int ((m + 2 : Nat) : Int)]) (.int 0) s = .ok (.int ((m + 2 : Nat) : Int)) s := rfl
  have c0 : (!(((m + 2 : Nat) : Int) == ((m + 2 : Nat) : Int))) = false := by simp
  simp only [t__law_case_24, t__law_case_25, t__law_case_27]
  generalize ((m + 2 : Nat) : Int) = m2 at *
  generalize ((m + 1 : Nat) : Int) = mm at *
  generalize fr (hiV L m) = f at *
  generalize ladD L = ld at *
  generalize hrow : D.lst [.int m2] = row at *
  have key : ∀ (l1 : ME) (t3 : MS), l1 [x0, some ld, x2, x3, x4, x5, x6, x7, x8, some f, x10, x11, x12, some (.int mm), x14, x15, x16, x17, x18, x19] s = .ok row s →
      t3 [x0, some ld, x2, x3, x4, x5, x6, x7, x8, some f, x10, x11, x12, some (.int mm), some row, x15, x16, x17, x18, x19] s = .rt (.bl true) s →
      mSeq (mAsg (mCall 3 r__law_after (mCons (mVar 1) (mCons (mVar 13) (mCons (mC .non) mNil)))) (mgName 9)) (mSeq (mIfS (mTest (mOp notND (mVar 9) (mC .non))) (mSeq (mAsg l1 (mgName 14)) (mIfS (mTest (mOp neD (mCall 2 r__law_told (mCons (mC (.fn "parts_enough")) (mCons (mTup (mCons (mVar 1) (mCons (mVar 9) mNil))) mNil))) (mOp ixD (mVar 14) (mC (.int 0))))) (mRet (mC (.bl false))) mNext)) mNext) t3) [x0, some ld, x2, x3, x4, x5, x6, x7, x8, x9, x10, x11, x12, some (.int mm), x14, x15, x16, x17, x18, x19] s = .rt (.bl true) s := fun l1 t3 k1 k3 => by
    repeat (first | walk_at "sem1" | simp only [a1, nn, k1, p1, i0, c0, k3, z2])
  exact key _ _ hlc (e29 _ _)
theorem backF_bl {n : Nat} {base t : Sto} {b : Bool} (hn : n = base.length) (hb : plS base) : backF n (.ok (.bl b) (base ++ t)) = .ok (.bl b) base := by
  subst hn
  by_cases h : t = []
  · subst h; simp only [List.append_nil, backF, if_true]
  · have : (base ++ t).length ≠ base.length := by
      rw [List.length_append]
      have := List.length_pos_iff.mpr h
      omega
    simp only [backF, if_neg this, frz, List.take_left, plS_cl hb, if_true]
theorem bag_ok {ns : List Int} (h63 : ns.length ≤ 63) (k : Nat) (hk : k ≤ 63) (s : Sto) : ∃ a b c : Int, r__law_bag [.scr ns, .int k] s = .ok (.ref s.length) (s ++ [.lst [.int a, .int b, .int c]]) ∧ c.natAbs < 2 ^ 64 := by
  have hl : lenF [.scr ns] s = .ok (.int ns.length) s := by
    show R.ok (D.int ((ns.map D.int).length : Int)) s = _
    rw [List.length_map]
  have hc : ((k : Nat) : Int).natAbs < 2 ^ 64 := by
    have : (63 : Nat) < 2 ^ 64 := by decide
    omega
  have hp : powD (.int 10) (.int 18) s = .ok (.int 1000000000000000000) s := by
    have : powOk 10 18 = true := by decide
    simp only [powD, this, if_true]
    congr 2
  unfold r__law_bag
  by_cases h : k < ns.length
  · have e1 : decide (((k : Nat) : Int) < (ns.length : Int)) = true := decide_eq_true (by omega)
    have hx : ixD (.scr ns) (.int k) s = .ok (.int (ns[k]'h)) s := by
      have : (ns.map D.int)[k]? = some (.int (ns[k]'h)) := by rw [List.getElem?_map, List.getElem?_eq_getElem h]; rfl
      simp only [ixD, rdS, atI_of this]
    by_cases hb : (1000000000000000000 : Int) ≤ ns[k]'h
    · have e2 : decide ((1000000000000000000 : Int) ≤ ns[k]'h) = true := decide_eq_true hb
      refine ⟨ns[k]'h, ns[k]'h, (k : Nat), ?_, hc⟩
      repeat (first | walk_at "sem1" | simp only [hl, e1, hx, hp, e2, ge_iff_le, mNew])
    · have e2 : decide ((1000000000000000000 : Int) ≤ ns[k]'h) = false := decide_eq_false hb
      refine ⟨0, ns[k]'h, (k : Nat), ?_, hc⟩
      repeat (first | walk_at "sem1" | simp only [hl, e1, hx, hp, e2, ge_iff_le, mNew])
  · have e1 : decide (((k : Nat) : Int) < (ns.length : Int)) = false := decide_eq_false (by omega)
    have e2 : decide ((1000000000000000000 : Int) ≤ 0) = false := by decide
    refine ⟨0, 0, (k : Nat), ?_, hc⟩
    repeat (first | walk_at "sem1" | simp only [hl, e1, hp, e2, ge_iff_le, mNew])
theorem both_twice {L : List Part} (h : Both L) : Both (L ++ L) := by
  refine ⟨fun q hq => ?_, ?_, ?_⟩
  · rcases List.mem_append.mp hq with z | z <;> exact h.ok q z
  · obtain ⟨p, hp, e⟩ := h.row; exact ⟨p, List.mem_append_left _ hp, e⟩
  · obtain ⟨p, hp, e⟩ := h.bes; exact ⟨p, List.mem_append_left _ hp, e⟩
theorem dual_ok {L : List Part} (hL : okL L) : okL (L.map dual) := fun q hq => by
  obtain ⟨p, hp, rfl⟩ := List.mem_map.mp hq
  obtain ⟨h1, h2⟩ := hL p hp
  have h0 : p.2 ≠ 0 := by grind
  refine ⟨?_, ?_⟩
  · show 0 < 1 / p.2
    rw [Rat.div_def]; exact Rat.mul_pos (by decide) (Rat.inv_pos.mpr h1)
  · show Sm 3 (1 / p.2)
    rw [div_divInt]
    refine divInt_sm ?_ ?_ ?_
    · show ((1 : Rat).num * p.2.den).natAbs < 2 ^ 3
      have := h2.2
      rw [show (1 : Rat).num = 1 from rfl]; omega
    · show (((1 : Rat).den : Int) * p.2.num).natAbs < 2 ^ 3
      have := h2.1
      rw [show (1 : Rat).den = 1 from rfl]; omega
    · show (((1 : Rat).den : Int) * p.2.num) ≠ 0
      have := num_ne h0
      rw [show (1 : Rat).den = 1 from rfl]; omega
theorem both_dual {L : List Part} (h : Both L) : Both (L.map dual) := by
  refine ⟨dual_ok h.ok, ?_, ?_⟩
  · obtain ⟨p, hp, e⟩ := h.bes; exact ⟨dual p, List.mem_map.mpr ⟨p, hp, rfl⟩, by show (!p.1) = true; rw [e]; rfl⟩
  · obtain ⟨p, hp, e⟩ := h.row; exact ⟨dual p, List.mem_map.mpr ⟨p, hp, rfl⟩, by show (!p.1) = false; rw [e]; rfl⟩
theorem t21 {L : List Part} (h : Both L) (h1 : 1 ≤ L.length) (h5 : L.length ≤ 5) {n : Nat} {s : Sto} (hB : BagAt s n) (hs : plS s) : ∃ s', Drew s s' n ∧ ∀ x3 x7 x8 x9 x10 x11 x12 x13 x14 x15 x16 x17 x18 x19 : Option D,
    t__law_case_21 [some (.ref n), some (ladD L), some (rootD (rt L)), x3, some (.int (rt L).a), some (.int (rt L).b), some (.int (rt L).c), x7, x8, x9, x10, x11, x12, x13, x14, x15, x16, x17, x18, x19] s = .rt (.bl true) s' := by
  obtain ⟨r, s', e1, r0, r1, d1⟩ := draw_ok hB (many := 6) (by decide) (by decide)
  obtain ⟨m, rfl⟩ : ∃ m : Nat, r = (m : Int) := ⟨r.toNat, by omega⟩
  refine ⟨s', d1, fun x3 x7 x8 x9 x10 x11 x12 x13 x14 x15 x16 x17 x18 x19 => ?_⟩
  have e24 := t24 h h1 h5 (m := m) (by omega) (some (.ref n)) (some (rootD (rt L))) x3 (some (.int (rt L).a)) (some (.int (rt L).b)) (some (.int (rt L).c)) x7 x8 x9 x10 x11 x12 x14 x15 x16 x17 x18 x19 s'
  have hm : ((m + 1 : Nat) : Int) = 1 + (m : Int) := by omega
  rw [hm] at e24
  obtain ⟨hr, hp⟩ := rt_sz h (by omega)
  have o1 := order_self hr hp s
  have en2 := endless_ok (both_twice h) (by rw [List.length_append]; omega) (by rw [List.length_append]; omega) s
  rw [rt_twice h] at en2
  have ad : addD (ladD L) (ladD L) s = .ok (ladD (L ++ L)) s := by
    have hne : L.map partD ≠ [] := fun z => by
      have := congrArg List.length z
      rw [List.length_map, List.length_nil] at this
      omega
    unfold ladD
    rw [addD_tup s hne (by rw [List.length_map]; omega), List.map_append]
  have tu := turned_ok h.ok h1 (by omega) hs
  have en3 := endless_ok (both_dual h) (by rw [List.length_map]; omega) (by rw [List.length_map]; omega) s
  obtain ⟨hr2, hp2⟩ := rt_sz (both_dual h) (by rw [List.length_map]; omega)
  have o2 := order_self hr2 hp2 s
  have hrd : rootD (rt (L.map dual)) = .tup [.str "root", .int (0 - (rt L).c), .int (0 - (rt L).b), .int (0 - (rt L).a)] := by rw [rt_dual h]; rfl
  rw [hrd] at en3 o2
  have n0 : (!((0 : Int) == 0)) = false := by decide
  have z4 : (4 : Nat) ≤ 100000 := by decide
  simp only [t__law_case_21, t__law_case_23]
  generalize hrow : D.tup [.str "root", .int (0 - (rt L).c), .int (0 - (rt L).b), .int (0 - (rt L).a)] = rr at *
  have hrow' : ∀ l : DL.Loc, l[6]? = some (some (.int (rt L).c)) → l[5]? = some (some (.int (rt L).b)) → l[4]? = some (some (.int (rt L).a)) → mTup (mCons (mC (.str "root")) (mCons (mOp subD (mC (.int 0)) (mVar 6)) (mCons (mOp subD (mC (.int 0)) (mVar 5)) (mCons (mOp subD (mC (.int 0)) (mVar 4)) mNil)))) l s = .ok rr s := fun l g6 g5 g4 => by
    rw [← hrow]
    generalize (rt L).a = A at *
    generalize (rt L).b = B at *
    generalize (rt L).c = C at *
    repeat (first | walk_at "sem1" | simp only [g6, g5, g4, z4])
  have hrw := hrow' [some (.ref n), some (ladD L), some (rootD (rt L)), x3, some (.int (rt L).a), some (.int (rt L).b), some (.int (rt L).c), x7, x8, x9, x10, x11, x12, x13, x14, x15, x16, x17, x18, x19] rfl rfl rfl
  generalize rootD (rt L) = rd at *
  generalize ladD (L ++ L) = l2 at *
  generalize ladD (L.map dual) = l3 at *
  generalize ladD L = ld at *
  generalize (rt L).a = A at *
  generalize (rt L).b = B at *
  generalize (rt L).c = C at *
  have key : ∀ (mt : ME) (t3 : MS), mt [some (.ref n), some ld, some rd, x3, some (.int A), some (.int B), some (.int C), x7, x8, x9, x10, x11, x12, x13, x14, x15, x16, x17, x18, x19] s = .ok rr s →
      t3 [some (.ref n), some ld, some rd, x3, some (.int A), some (.int B), some (.int C), x7, x8, x9, x10, x11, x12, some (.int (1 + (m : Int))), x14, x15, x16, x17, x18, x19] s' = .rt (.bl true) s' →
      mSeq (mIfS (mOr (mTest (mOp neD (mCall 2 r_order (mCons (mCall 1 r_endless (mCons (mOp addD (mVar 1) (mVar 1)) mNil)) (mCons (mVar 2) mNil))) (mC (.int 0)))) (mTest (mOp neD (mCall 2 r_order (mCons (mCall 1 r_endless (mCons (mCall 1 r_turned (mCons (mVar 1) mNil)) mNil)) (mCons mt mNil))) (mC (.int 0))))) (mRet (mC (.bl false))) mNext) (mSeq (mAsg (mOp addD (mC (.int 1)) (mCall 2 r__law_draw (mCons (mVar 0) (mCons (mC (.int 6)) mNil)))) (mgName 13)) t3) [some (.ref n), some ld, some rd, x3, some (.int A), some (.int B), some (.int C), x7, x8, x9, x10, x11, x12, x13, x14, x15, x16, x17, x18, x19] s = .rt (.bl true) s' := fun mt t3 k1 k2 => by
    repeat (first | walk_at "sem1" | simp only [ad, en2, o1, tu, en3, k1, o2, n0, e1, k2])
  exact key _ _ hrw e24
theorem t16 {L : List Part} (h : Both L) (h1 : 1 ≤ L.length) (h5 : L.length ≤ 5) {n : Nat} {s : Sto} (hB : BagAt s n) (hs : plS s) : ∃ s', Drew s s' n ∧ ∀ x3 x7 x8 x9 x10 x11 x12 x13 x14 x15 x16 x17 x18 x19 : Option D,
    t__law_case_16 [some (.ref n), some (ladD L), some (rootD (rt L)), x3, some (.int (rt L).a), some (.int (rt L).b), some (.int (rt L).c), x7, x8, x9, x10, x11, x12, x13, x14, x15, x16, x17, x18, x19] s = .rt (.bl true) s' := by
  obtain ⟨hr, hp⟩ := rt_sz h (by omega)
  obtain ⟨s', d1, e21⟩ := t21 h h1 h5 hB hs
  refine ⟨s', d1, fun x3 x7 x8 x9 x10 x11 x12 x13 x14 x15 x16 x17 x18 x19 => ?_⟩
  obtain ⟨l', s1, e, y10, y11, y12, rfl, rfl⟩ := forL_inv (mg := mgName 10) (mb := b__law_case_16) (ds := rangeD 1 5)
    (fun k l u => ∃ y10 y11 y12, l = [some (.ref n), some (ladD L), some (rootD (rt L)), x3, some (.int (rt L).a), some (.int (rt L).b), some (.int (rt L).c), x7, x8, x9, y10, y11, y12, x13, x14, x15, x16, x17, x18, x19] ∧ u = s)
    (fun k d l u hd ⟨y10, y11, y12, el, eu⟩ => by
      subst el eu
      obtain ⟨hk, rfl⟩ := rangeD_get hd
      have hk1 : (1 : Int) + (k : Int) = ((k + 1 : Nat) : Int) := by omega
      rw [hk1]
      have a1 := lafter_hi h h5 (n := k) (by omega) u
      have a2 := lafter_lo h h5 (n := k + 1) (by omega) u
      have c1 := compare_ok hr hp (sm_hi h h5 (n := k) (by omega)) (by decide) (by decide) u
      have c2 := compare_ok hr hp (sm_lo h h5 (n := k + 1) (by omega)) (by decide) (by decide) u
      rw [cmp_hi h k] at c1
      rw [cmp_lo h (k + 1)] at c2
      have nn : notND (fr (hiV L k)) .non u = .ok (.bl true) u := rfl
      have n1 : (!((-1 : Int) == -1)) = false := by decide
      have n2 : (!((1 : Int) == 1)) = false := by decide
      have ng : (-(1 : Int)) = -1 := rfl
      have z2 : (2 : Nat) ≤ 100000 := by decide
      refine ⟨_, _, rfl, _, _, ?_, some (.int ((k + 1 : Nat) : Int)), some (fr (hiV L k)), some (fr (loV L (k + 1))), rfl, rfl⟩
      unfold b__law_case_16
      simp only [t__law_case_18, t__law_case_19]
      generalize fr (hiV L k) = f1 at *
      generalize fr (loV L (k + 1)) = f2 at *
      generalize rootD (rt L) = rd at *
      generalize ladD L = ld at *
      generalize ((k + 1 : Nat) : Int) = kk at *
      generalize (rt L).a = A at *
      generalize (rt L).b = B at *
      generalize (rt L).c = C at *
      repeat (first | walk_at "sem1" | simp only [a1, a2, c1, c2, nn, n1, n2, ng, z2]))
    (l := [some (.ref n), some (ladD L), some (rootD (rt L)), x3, some (.int (rt L).a), some (.int (rt L).b), some (.int (rt L).c), x7, x8, x9, x10, x11, x12, x13, x14, x15, x16, x17, x18, x19]) (s := s) ⟨_, _, _, rfl, rfl⟩
  have e2 := e21 x3 x7 x8 x9 y10 y11 y12 x13 x14 x15 x16 x17 x18 x19
  have e3 : l__law_case_16 [some (.ref n), some (ladD L), some (rootD (rt L)), x3, some (.int (rt L).a), some (.int (rt L).b), some (.int (rt L).c), x7, x8, x9, x10, x11, x12, x13, x14, x15, x16, x17, x18, x19] s1 = .nx [some (.ref n), some (ladD L), some (rootD (rt L)), x3, some (.int (rt L).a), some (.int (rt L).b), some (.int (rt L).c), x7, x8, x9, y10, y11, y12, x13, x14, x15, x16, x17, x18, x19] s1 := by
    unfold l__law_case_16
    rw [for_ok (ds := rangeD 1 5) (s1 := s1) (rng2_ok (lo := 1) (hi := 6) (n := 5) rfl rfl (by omega) (by omega) (by omega) (by omega) (by omega))]
    exact e
  unfold t__law_case_16
  simp only [mSeq, e3, e2]
theorem t3 {L : List Part} (h : Both L) (h1 : 1 ≤ L.length) (h5 : L.length ≤ 5) {n : Nat} {s : Sto} (hB : BagAt s n) (hs : plS s) : ∃ s', Drew s s' n ∧
    t__law_case_3 [some (.ref n), some (ladD L), some (rootD (rt L)), none, none, none, none, none, none, none, none, none, none, none, none, none, none, none, none, none] s = .rt (.bl true) s' := by
  obtain ⟨hr, hp⟩ := rt_sz h (by omega)
  have ha := hr.a0
  have hc := hr.c1
  -- sizes
  have bm := mx_bd h.ok
  obtain ⟨z1, z2, z3⟩ := prim_bd (n := 60) (b := (mx L).d - (mx L).a) (c := 0 - (mx L).b) (bm.c.mono (by omega)) (((bm.d.mono (show _ ≤ 50 by omega)).sub (bm.a.mono (show _ ≤ 50 by omega))).mono (by decide)) (((bd0 50).sub (bm.b.mono (show _ ≤ 50 by omega))).mono (by decide))
  have z1 : Bd 60 (rt L).a := z1
  have z2 : Bd 60 (rt L).b := z2
  have z3 : Bd 60 (rt L).c := z3
  obtain ⟨q, q0, q1, q2, ew⟩ := whole_ok (disc_nn hr) ((disc_bd hr).mono (by decide)) s
  obtain ⟨s', d1, e16⟩ := t16 h h1 h5 hB hs
  refine ⟨s', d1, ?_⟩
  have hd : disc (rt L) = dsc (rt L) := rfl
  have m1 := mulB s hr.b hr.b (by decide) (by decide) (by decide)
  have m2 := mulB s (show Bd 3 4 by decide) hr.a (by decide) (by decide) (by decide)
  have m3 := mulB s ((show Bd 3 4 by decide).mul hr.a) hr.c (by decide) (by decide) (by decide)
  have m4 := mulB s (show Bd 3 2 by decide) hr.a (by decide) (by decide) (by decide)
  have hdd : (rt L).b * (rt L).b - 4 * (rt L).a * (rt L).c = disc (rt L) := rfl
  have hg : mgTup 4 (mgCons (mgName 3) (mgCons (mgName 4) (mgCons (mgName 5) (mgCons (mgName 6) mgNil)))) (rootD (rt L)) [some (.ref n), some (ladD L), some (rootD (rt L)), none, none, none, none, none, none, none, none, none, none, none, none, none, none, none, none, none] s = .ok [some (.ref n), some (ladD L), some (rootD (rt L)), some (.str "root"), some (.int (rt L).a), some (.int (rt L).b), some (.int (rt L).c), none, none, none, none, none, none, none, none, none, none, none, none, none] s := rfl
  have nr : neD (.str "root") (.str "root") s = .ok (.bl false) s := neD_no 1 rfl (by decide +kernel) (by decide)
  have c1 : decide ((rt L).a < 1) = false := decide_eq_false (by omega)
  have c2 : decide (-1 < (rt L).c) = false := decide_eq_false (by omega)
  have ng : (-(1 : Int)) = -1 := rfl
  have z2' : (2 : Nat) ≤ 100000 := by decide
  simp only [t__law_case_3, t__law_case_4, t__law_case_6, t__law_case_7, t__law_case_8]
  by_cases hq : q * q = disc (rt L)
  · rw [if_pos hq] at ew
    obtain ⟨f0, fp⟩ := fx_root hr hq q0
    have hqb : Bd 405 q := by
      have hd := disc_bd hr
      unfold Bd at hd ⊢
      have h1 : q ≤ disc (rt L) ∨ q ≤ 0 := by
        rcases Int.lt_or_le 0 q with z | z
        · left
          have : q * 1 ≤ q * q := Int.mul_le_mul_of_nonneg_left (by omega) q0
          omega
        · exact .inr z
      have e1 : (2 : Nat) ^ 405 = 2 ^ 404 * 2 := by rw [← Nat.pow_succ]
      have e2 : (0 : Nat) < 2 ^ 404 := Nat.pow_pos (by decide)
      rw [e1]
      generalize (2 : Nat) ^ 404 = m at *
      omega
    have l1 := lfr_ok (p := q - (rt L).b) s (N := 203) ((show Bd 3 2 by decide).mul hr.a) (by omega) (by decide) (by decide)
    have sx : Sm 406 (Rat.divInt (q - (rt L).b) (2 * (rt L).a)) := divInt_sm (N := 406) (hqb.sub (hr.b.mono (by decide))) (((show Bd 3 2 by decide).mul hr.a).mono (by decide)) (by omega)
    have la : r__law_after [ladD L, .int 1, fr (Rat.divInt (q - (rt L).b) (2 * (rt L).a))] s = .ok (fr (Rat.divInt (q - (rt L).b) (2 * (rt L).a))) s := by
      obtain ⟨y, hy, _, _, _⟩ := one_mx h.ok (Rat.le_of_lt fp)
      obtain ⟨k, k0, e2⟩ := rt_sign h (Rat.le_of_lt fp) hy
      rw [f0] at e2
      have : Rat.divInt (q - (rt L).b) (2 * (rt L).a) - y = 0 := by
        rcases Rat.mul_eq_zero.mp e2.symm with z | z
        · grind
        · exact z
      have hxy : y = Rat.divInt (q - (rt L).b) (2 * (rt L).a) := by grind
      have := lafter_ok h.ok (n := 1) (by decide) (x := some (Rat.divInt (q - (rt L).b) (2 * (rt L).a))) (N := 406) (Rat.le_of_lt fp) sx (by decide) (by omega) s
      rw [show aft L 1 (some (Rat.divInt (q - (rt L).b) (2 * (rt L).a))) = one L (some (Rat.divInt (q - (rt L).b) (2 * (rt L).a))) from rfl, hy, hxy] at this
      exact this
    have n1 : neD (fr (Rat.divInt (q - (rt L).b) (2 * (rt L).a))) (fr (Rat.divInt (q - (rt L).b) (2 * (rt L).a))) s = .ok (.bl false) s := neD_no 2 rfl (plN_fr _) (by decide)
    have nn : notND (.int q) .non s = .ok (.bl true) s := rfl
    have e16 := e16 (some (.str "root")) (some (.int (disc (rt L)))) (some (.int q)) (some (fr (Rat.divInt (q - (rt L).b) (2 * (rt L).a)))) none none none none none none none none none none
    simp only [t__law_case_10]
    generalize fr (Rat.divInt (q - (rt L).b) (2 * (rt L).a)) = f at *
    generalize disc (rt L) = dd at *
    generalize rootD (rt L) = rd at *
    generalize ladD L = ld at *
    generalize (rt L).a = A at *
    generalize (rt L).b = B at *
    generalize (rt L).c = C at *
    generalize mgTup 4 (mgCons (mgName 3) (mgCons (mgName 4) (mgCons (mgName 5) (mgCons (mgName 6) mgNil)))) = tg at *
    generalize t__law_case_16 = t16 at *
    generalize t__law_case_14 = t14 at *
    repeat (first | walk_at "sem1" | simp only [hg, nr, c1, c2, ng, m1, m2, m3, m4, hdd, ew, nn, l1, la, n1, e16, z2'])
  · rw [if_neg hq] at ew
    have hsq : ¬ ∃ p : Int, 0 ≤ p ∧ p * p = dsc (rt L) := by
      rintro ⟨p, p0, p1⟩
      have hpd : p * p = disc (rt L) := p1
      have := sq_uniq q0 p0 q1 q2 (by omega) (by
        have : (p + 1) * (p + 1) = p * p + 2 * p + 1 := by grind
        omega)
      subst this
      exact hq hpd
    have th := through_ok ha hsq z1 z2 z3 h.ok (by omega) s
    rw [pall_root h hsq] at th
    have l1 := lfr_ok (p := 0 - (rt L).b) s (N := 203) ((show Bd 3 2 by decide).mul hr.a) (by omega) (by decide) (by decide)
    have l2 := lfr_ok (p := 1) s (N := 203) ((show Bd 3 2 by decide).mul hr.a) (by omega) (by decide) (by decide)
    have hpl : plN 3 (prD (ru (rt L))) = true := rfl
    have n1 : neD (prD (ru (rt L))) (prD (ru (rt L))) s = .ok (.bl false) s := neD_no 3 rfl hpl (by decide)
    have nn : notND .non .non s = .ok (.bl false) s := rfl
    have hpr : D.tup [fr (Rat.divInt (0 - (rt L).b) (2 * (rt L).a)), fr (Rat.divInt 1 (2 * (rt L).a))] = prD (ru (rt L)) := rfl
    have e16 := e16 (some (.str "root")) (some (.int (disc (rt L)))) (some .non) (some (prD (ru (rt L)))) none none none none none none none none none none
    rw [← hd] at th
    simp only [t__law_case_14]
    generalize prD (ru (rt L)) = pr at *
    generalize fr (Rat.divInt (0 - (rt L).b) (2 * (rt L).a)) = f1 at *
    generalize fr (Rat.divInt 1 (2 * (rt L).a)) = f2 at *
    generalize disc (rt L) = dd at *
    generalize rootD (rt L) = rd at *
    generalize ladD L = ld at *
    generalize (rt L).a = A at *
    generalize (rt L).b = B at *
    generalize (rt L).c = C at *
    generalize mgTup 4 (mgCons (mgName 3) (mgCons (mgName 4) (mgCons (mgName 5) (mgCons (mgName 6) mgNil)))) = tg at *
    generalize t__law_case_16 = t16 at *
    generalize t__law_case_10 = t10 at *
    repeat (first | walk_at "sem1" | simp only [hg, nr, c1, c2, ng, m1, m2, m3, m4, hdd, ew, nn, l1, l2, hpr, th, n1, e16, z2'])
theorem case_ok {s : Sto} {n : Nat} (hB : BagAt s n) (hs : plS s) : ∃ s', r__law_case [.ref n] s = .ok (.bl true) s' ∧ plS s' := by
  obtain ⟨L, s1, e1, d1, h, h1, h5⟩ := ladder_ok hB hs
  obtain ⟨s2, d2, e2⟩ := t3 h h1 h5 (d1.bag hB.lt) (d1.plS hs)
  refine ⟨s2, ?_, d2.plS (d1.plS hs)⟩
  have hb : backF s.length (.ok (.bl true) s2) = .ok (.bl true) s2 := backF_eq (d2.len.trans d1.len)
  have e3 := endless_ok h h1 (by omega) s1
  unfold r__law_case
  simp only [t__law_case_2]
  simp only [mDef, List.length_cons, List.length_nil, Nat.reduceAdd, if_true, List.map_cons, List.map_nil, Nat.reduceSub, List.replicate_succ, List.replicate_zero, List.cons_append, List.nil_append]
  rw [← hb]
  congr 1
  generalize rootD (rt L) = rd at *
  generalize ladD L = ld at *
  have key : ∀ t3 : MS, t3 [some (.ref n), some ld, some rd, none, none, none, none, none, none, none, none, none, none, none, none, none, none, none, none, none] s1 = .rt (.bl true) s2 → outR (mSeq (mAsg (mCall 1 r__law_ladder (mCons (mVar 0) mNil)) (mgName 1)) (mSeq (mAsg (mCall 1 r_endless (mCons (mVar 1) mNil)) (mgName 2)) t3) [some (.ref n), none, none, none, none, none, none, none, none, none, none, none, none, none, none, none, none, none, none, none] s) = .ok (.bl true) s2 := fun t3 k => by
    repeat (first | walk_at "sem1" | simp only [e1, e3, k])
  exact key _ e2
theorem first_ok (r : Rat) (hr : 0 < r) (hs : Sm 3 r) (s : Sto) (A B C : Int) (h : rt [(true, 1), (false, r)] = ⟨A, B, C⟩) : r_endless [.tup [.tup [.str "row", .tup [.int 1, .int 1]], .tup [.str "beside", fr r]]] s = .ok (.tup [.str "root", .int A, .int B, .int C]) s := by
  have hb : Both [(true, 1), (false, r)] := ⟨fun p hp => by
    simp only [List.mem_cons, List.not_mem_nil, or_false] at hp
    rcases hp with rfl | rfl
    · exact ⟨by decide, by decide, by decide⟩
    · exact ⟨hr, hs⟩, ⟨(true, 1), List.mem_cons_self .., rfl⟩, ⟨(false, r), List.mem_cons_of_mem _ (List.mem_cons_self ..), rfl⟩⟩
  have := endless_ok hb (show 1 ≤ 2 by decide) (show 2 ≤ 12 by decide) s
  rw [h] at this
  exact this
theorem main : ∀ ns : List Int, ns.length ≤ 63 → r_law [.scr ns] [] = .ok (.bl true) [] := by
  intro ns h63
  have hl : ∀ s, lenF [.scr ns] s = .ok (.int ns.length) s := fun s => by
    show R.ok (D.int ((ns.map D.int).length : Int)) s = _
    rw [List.length_map]
  obtain ⟨cells, hcells, hc5⟩ : ∃ c : Nat, (if (4 : Int) < (if (1 : Int) > (ns.length : Int) then 1 else (ns.length : Int)) then 4 else (if (1 : Int) > (ns.length : Int) then 1 else (ns.length : Int))) = (c : Int) ∧ c ≤ 4 := by
    refine ⟨(if (4 : Int) < (if (1 : Int) > (ns.length : Int) then 1 else (ns.length : Int)) then 4 else (if (1 : Int) > (ns.length : Int) then 1 else (ns.length : Int))).toNat, ?_, ?_⟩ <;> split <;> split <;> omega
  obtain ⟨l', s', e, x1, rfl, hp⟩ := forL_inv (mg := mgName 1) (mb := b_law_3) (ds := rangeD 0 cells)
    (fun _ l s => ∃ x1, l = [some (.scr ns), x1] ∧ plS s)
    (fun k d l s hd ⟨x1, el, hp⟩ => by
      subst el
      obtain ⟨hk, rfl⟩ := rangeD_get hd
      rw [Int.zero_add]
      obtain ⟨a, b, c, e1, hc⟩ := bag_ok h63 k (by omega) s
      have hB : BagAt (s ++ [.lst [.int a, .int b, .int c]]) s.length := ⟨a, b, c, by rw [List.getElem?_append_right (Nat.le_refl _), Nat.sub_self]; rfl, hc⟩
      have hp1 : plS (s ++ [.lst [.int a, .int b, .int c]]) := plS_app hp (plS_one rfl)
      obtain ⟨s2, e2, hp2⟩ := case_ok hB hp1
      refine ⟨_, _, rfl, [some (.scr ns), some (.int (k : Nat))], s2, ?_, ⟨_, rfl, hp2⟩⟩
      simp only [b_law_3]
      repeat (first | walk_at "sem1" | simp only [e1, e2]))
    (l := [some (.scr ns), none]) (s := []) ⟨_, rfl, plS_nil⟩
  have hL : l_law_3 [some (.scr ns), none] [] = .nx [some (.scr ns), x1] s' := by
    unfold l_law_3
    rw [for_ok (rng1_ok (n := cells) (s1 := []) (by
      rw [← hcells]
      repeat (first | walk_at "sem1" | simp only [hl])) (by omega)), e]
  have f1 : r_endless [.tup [.tup [.str "row", .tup [.int 1, .int 1]], .tup [.str "beside", .tup [.int 1, .int 1]]]] [] = .ok (.tup [.str "root", .int 1, .int (-1), .int (-1)]) [] := first_ok 1 (by decide) ⟨by decide, by decide⟩ [] _ _ _ (by
    have h1 : (rt [(true, 1), (false, 1)]).a = 1 := by decide +kernel
    have h2 : (rt [(true, 1), (false, 1)]).b = -1 := by decide +kernel
    have h3 : (rt [(true, 1), (false, 1)]).c = -1 := by decide +kernel
    cases h4 : rt [(true, 1), (false, 1)] with
    | mk A B C =>
      rw [h4] at h1 h2 h3
      simp only at h1 h2 h3
      rw [h1, h2, h3])
  have f2 : r_endless [.tup [.tup [.str "row", .tup [.int 1, .int 1]], .tup [.str "beside", .tup [.int 2, .int 1]]]] [] = .ok (.tup [.str "root", .int 1, .int (-1), .int (-2)]) [] := first_ok 2 (by decide) ⟨by decide, by decide⟩ [] _ _ _ (by
    have h1 : (rt [(true, 1), (false, 2)]).a = 1 := by decide +kernel
    have h2 : (rt [(true, 1), (false, 2)]).b = -1 := by decide +kernel
    have h3 : (rt [(true, 1), (false, 2)]).c = -2 := by decide +kernel
    cases h4 : rt [(true, 1), (false, 2)] with
    | mk A B C =>
      rw [h4] at h1 h2 h3
      simp only at h1 h2 h3
      rw [h1, h2, h3])
  have n1 : neD (.tup [.str "root", .int 1, .int (-1), .int (-1)]) (.tup [.str "root", .int 1, .int (-1), .int (-1)]) [] = .ok (.bl false) [] := neD_no 2 rfl (by decide +kernel) (by decide)
  have n2 : neD (.tup [.str "root", .int 1, .int (-1), .int (-2)]) (.tup [.str "root", .int 1, .int (-1), .int (-2)]) [] = .ok (.bl false) [] := neD_no 2 rfl (by decide +kernel) (by decide)
  have hb := backF_bl (n := 0) (base := []) (t := s') (b := true) rfl plS_nil
  rw [List.nil_append] at hb
  have z2 : (2 : Nat) ≤ 100000 := by decide
  have z4 : (4 : Nat) ≤ 100000 := by decide
  unfold r_law
  simp only [t_law_3, t_law_6]
  simp only [mDef, List.length_cons, List.length_nil, Nat.reduceAdd, if_true, List.map_cons, List.map_nil, Nat.reduceSub, List.replicate_succ, List.replicate_zero, List.cons_append, List.nil_append]
  have key : ∀ (lp m1 : MS), m1 [some (.scr ns), none] [] = .nx [some (.scr ns), none] [] → lp [some (.scr ns), none] [] = .nx [some (.scr ns), x1] s' → outR (mSeq m1 (mSeq lp (mRet (mC (.bl true)))) [some (.scr ns), none] []) = .ok (.bl true) s' := fun lp m1 k1 k3 => by
    repeat (first | walk_at "sem1" | simp only [k1, k3])
  rw [key _ _ ?_ hL]
  · exact hb
  · repeat (first | walk_at "sem1" | simp only [z4, z2, f1, f2, n1, n2])
end K71


namespace K71
open PySem PySem.Spec PyProof.Rows L2 DL
theorem top_mk {K : PySem.W.Frag} {h : Heap} {mg : Str → Option Value} (X : K.In h) (Gn : h.Ns mainGlobals mg)
    {fa0 : Addr} {od0 an0 : Option Addr} {sl0 : Array (Option Value)} {oc0 kV0 dc0 pm0 cd0 ct0 : Value}
    (a0 : PySem.W.nsIn K mainGlobals "common" = some (some (.ref fa0))) (l0 : K.lookup fa0 = some ⟨oc0, od0, .func (PySem.W.fnOf "common" "common" (defArgs s_common) (defBody s_common) (defScope s_common) .none kV0 dc0 pm0 an0 cd0 ct0), sl0⟩) (c0 : PySem.W.codeIn K cd0 "common" = true) (k0 : PySem.W.keepIn K (.ref fa0) = true)
    {fa1 : Addr} {od1 an1 : Option Addr} {sl1 : Array (Option Value)} {oc1 kV1 dc1 pm1 cd1 ct1 : Value}
    (a1 : PySem.W.nsIn K mainGlobals "is_any_fraction" = some (some (.ref fa1))) (l1 : K.lookup fa1 = some ⟨oc1, od1, .func (PySem.W.fnOf "is_any_fraction" "is_any_fraction" (defArgs s_is_any_fraction) (defBody s_is_any_fraction) (defScope s_is_any_fraction) .none kV1 dc1 pm1 an1 cd1 ct1), sl1⟩) (c1 : PySem.W.codeIn K cd1 "is_any_fraction" = true) (k1 : PySem.W.keepIn K (.ref fa1) = true)
    {fa2 : Addr} {od2 an2 : Option Addr} {sl2 : Array (Option Value)} {oc2 kV2 dc2 pm2 cd2 ct2 : Value}
    (a2 : PySem.W.nsIn K mainGlobals "is_fraction" = some (some (.ref fa2))) (l2 : K.lookup fa2 = some ⟨oc2, od2, .func (PySem.W.fnOf "is_fraction" "is_fraction" (defArgs s_is_fraction) (defBody s_is_fraction) (defScope s_is_fraction) .none kV2 dc2 pm2 an2 cd2 ct2), sl2⟩) (c2 : PySem.W.codeIn K cd2 "is_fraction" = true) (k2 : PySem.W.keepIn K (.ref fa2) = true)
    {fa3 : Addr} {od3 an3 : Option Addr} {sl3 : Array (Option Value)} {oc3 kV3 dc3 pm3 cd3 ct3 : Value}
    (a3 : PySem.W.nsIn K mainGlobals "sign" = some (some (.ref fa3))) (l3 : K.lookup fa3 = some ⟨oc3, od3, .func (PySem.W.fnOf "sign" "sign" (defArgs s_sign) (defBody s_sign) (defScope s_sign) .none kV3 dc3 pm3 an3 cd3 ct3), sl3⟩) (c3 : PySem.W.codeIn K cd3 "sign" = true) (k3 : PySem.W.keepIn K (.ref fa3) = true)
    {fa4 : Addr} {od4 an4 : Option Addr} {sl4 : Array (Option Value)} {oc4 kV4 dc4 pm4 cd4 ct4 : Value}
    (a4 : PySem.W.nsIn K mainGlobals "is_part" = some (some (.ref fa4))) (l4 : K.lookup fa4 = some ⟨oc4, od4, .func (PySem.W.fnOf "is_part" "is_part" (defArgs s_is_part) (defBody s_is_part) (defScope s_is_part) .none kV4 dc4 pm4 an4 cd4 ct4), sl4⟩) (c4 : PySem.W.codeIn K cd4 "is_part" = true) (k4 : PySem.W.keepIn K (.ref fa4) = true)
    {fa5 : Addr} {od5 an5 : Option Addr} {sl5 : Array (Option Value)} {oc5 kV5 dc5 pm5 cd5 ct5 : Value}
    (a5 : PySem.W.nsIn K mainGlobals "look_at_ladder" = some (some (.ref fa5))) (l5 : K.lookup fa5 = some ⟨oc5, od5, .func (PySem.W.fnOf "look_at_ladder" "look_at_ladder" (defArgs s_look_at_ladder) (defBody s_look_at_ladder) (defScope s_look_at_ladder) .none kV5 dc5 pm5 an5 cd5 ct5), sl5⟩) (c5 : PySem.W.codeIn K cd5 "look_at_ladder" = true) (k5 : PySem.W.keepIn K (.ref fa5) = true)
    {fa6 : Addr} {od6 an6 : Option Addr} {sl6 : Array (Option Value)} {oc6 kV6 dc6 pm6 cd6 ct6 : Value}
    (a6 : PySem.W.nsIn K mainGlobals "greatest_divisor" = some (some (.ref fa6))) (l6 : K.lookup fa6 = some ⟨oc6, od6, .func (PySem.W.fnOf "greatest_divisor" "greatest_divisor" (defArgs s_greatest_divisor) (defBody s_greatest_divisor) (defScope s_greatest_divisor) .none kV6 dc6 pm6 an6 cd6 ct6), sl6⟩) (c6 : PySem.W.codeIn K cd6 "greatest_divisor" = true) (k6 : PySem.W.keepIn K (.ref fa6) = true)
    {fa7 : Addr} {od7 an7 : Option Addr} {sl7 : Array (Option Value)} {oc7 kV7 dc7 pm7 cd7 ct7 : Value}
    (a7 : PySem.W.nsIn K mainGlobals "fraction" = some (some (.ref fa7))) (l7 : K.lookup fa7 = some ⟨oc7, od7, .func (PySem.W.fnOf "fraction" "fraction" (defArgs s_fraction) (defBody s_fraction) (defScope s_fraction) .none kV7 dc7 pm7 an7 cd7 ct7), sl7⟩) (c7 : PySem.W.codeIn K cd7 "fraction" = true) (k7 : PySem.W.keepIn K (.ref fa7) = true)
    {fa8 : Addr} {od8 an8 : Option Addr} {sl8 : Array (Option Value)} {oc8 kV8 dc8 pm8 cd8 ct8 : Value}
    (a8 : PySem.W.nsIn K mainGlobals "minus" = some (some (.ref fa8))) (l8 : K.lookup fa8 = some ⟨oc8, od8, .func (PySem.W.fnOf "minus" "minus" (defArgs s_minus) (defBody s_minus) (defScope s_minus) .none kV8 dc8 pm8 an8 cd8 ct8), sl8⟩) (c8 : PySem.W.codeIn K cd8 "minus" = true) (k8 : PySem.W.keepIn K (.ref fa8) = true)
    {fa9 : Addr} {od9 an9 : Option Addr} {sl9 : Array (Option Value)} {oc9 kV9 dc9 pm9 cd9 ct9 : Value}
    (a9 : PySem.W.nsIn K mainGlobals "plus" = some (some (.ref fa9))) (l9 : K.lookup fa9 = some ⟨oc9, od9, .func (PySem.W.fnOf "plus" "plus" (defArgs s_plus) (defBody s_plus) (defScope s_plus) .none kV9 dc9 pm9 an9 cd9 ct9), sl9⟩) (c9 : PySem.W.codeIn K cd9 "plus" = true) (k9 : PySem.W.keepIn K (.ref fa9) = true)
    {fa10 : Addr} {od10 an10 : Option Addr} {sl10 : Array (Option Value)} {oc10 kV10 dc10 pm10 cd10 ct10 : Value}
    (a10 : PySem.W.nsIn K mainGlobals "times" = some (some (.ref fa10))) (l10 : K.lookup fa10 = some ⟨oc10, od10, .func (PySem.W.fnOf "times" "times" (defArgs s_times) (defBody s_times) (defScope s_times) .none kV10 dc10 pm10 an10 cd10 ct10), sl10⟩) (c10 : PySem.W.codeIn K cd10 "times" = true) (k10 : PySem.W.keepIn K (.ref fa10) = true)
    {fa11 : Addr} {od11 an11 : Option Addr} {sl11 : Array (Option Value)} {oc11 kV11 dc11 pm11 cd11 ct11 : Value}
    (a11 : PySem.W.nsIn K mainGlobals "product" = some (some (.ref fa11))) (l11 : K.lookup fa11 = some ⟨oc11, od11, .func (PySem.W.fnOf "product" "product" (defArgs s_product) (defBody s_product) (defScope s_product) .none kV11 dc11 pm11 an11 cd11 ct11), sl11⟩) (c11 : PySem.W.codeIn K cd11 "product" = true) (k11 : PySem.W.keepIn K (.ref fa11) = true)
    {fa12 : Addr} {od12 an12 : Option Addr} {sl12 : Array (Option Value)} {oc12 kV12 dc12 pm12 cd12 ct12 : Value}
    (a12 : PySem.W.nsIn K mainGlobals "endless_by" = some (some (.ref fa12))) (l12 : K.lookup fa12 = some ⟨oc12, od12, .func (PySem.W.fnOf "endless_by" "endless_by" (defArgs s_endless_by) (defBody s_endless_by) (defScope s_endless_by) .none kV12 dc12 pm12 an12 cd12 ct12), sl12⟩) (c12 : PySem.W.codeIn K cd12 "endless_by" = true) (k12 : PySem.W.keepIn K (.ref fa12) = true)
    {fa13 : Addr} {od13 an13 : Option Addr} {sl13 : Array (Option Value)} {oc13 kV13 dc13 pm13 cd13 ct13 : Value}
    (a13 : PySem.W.nsIn K mainGlobals "endless" = some (some (.ref fa13))) (l13 : K.lookup fa13 = some ⟨oc13, od13, .func (PySem.W.fnOf "endless" "endless" (defArgs s_endless) (defBody s_endless) (defScope s_endless) .none kV13 dc13 pm13 an13 cd13 ct13), sl13⟩) (c13 : PySem.W.codeIn K cd13 "endless" = true) (k13 : PySem.W.keepIn K (.ref fa13) = true)
    {fa14 : Addr} {od14 an14 : Option Addr} {sl14 : Array (Option Value)} {oc14 kV14 dc14 pm14 cd14 ct14 : Value}
    (a14 : PySem.W.nsIn K mainGlobals "_law_draw" = some (some (.ref fa14))) (l14 : K.lookup fa14 = some ⟨oc14, od14, .func (PySem.W.fnOf "_law_draw" "_law_draw" (defArgs s__law_draw) (defBody s__law_draw) (defScope s__law_draw) .none kV14 dc14 pm14 an14 cd14 ct14), sl14⟩) (c14 : PySem.W.codeIn K cd14 "_law_draw" = true) (k14 : PySem.W.keepIn K (.ref fa14) = true)
    {fa15 : Addr} {od15 an15 : Option Addr} {sl15 : Array (Option Value)} {oc15 kV15 dc15 pm15 cd15 ct15 : Value}
    (a15 : PySem.W.nsIn K mainGlobals "_law_ladder" = some (some (.ref fa15))) (l15 : K.lookup fa15 = some ⟨oc15, od15, .func (PySem.W.fnOf "_law_ladder" "_law_ladder" (defArgs s__law_ladder) (defBody s__law_ladder) (defScope s__law_ladder) .none kV15 dc15 pm15 an15 cd15 ct15), sl15⟩) (c15 : PySem.W.codeIn K cd15 "_law_ladder" = true) (k15 : PySem.W.keepIn K (.ref fa15) = true)
    {fa16 : Addr} {od16 an16 : Option Addr} {sl16 : Array (Option Value)} {oc16 kV16 dc16 pm16 cd16 ct16 : Value}
    (a16 : PySem.W.nsIn K mainGlobals "_law_whole" = some (some (.ref fa16))) (l16 : K.lookup fa16 = some ⟨oc16, od16, .func (PySem.W.fnOf "_law_whole" "_law_whole" (defArgs s__law_whole) (defBody s__law_whole) (defScope s__law_whole) .none kV16 dc16 pm16 an16 cd16 ct16), sl16⟩) (c16 : PySem.W.codeIn K cd16 "_law_whole" = true) (k16 : PySem.W.keepIn K (.ref fa16) = true)
    {fa17 : Addr} {od17 an17 : Option Addr} {sl17 : Array (Option Value)} {oc17 kV17 dc17 pm17 cd17 ct17 : Value}
    (a17 : PySem.W.nsIn K mainGlobals "_law_fr" = some (some (.ref fa17))) (l17 : K.lookup fa17 = some ⟨oc17, od17, .func (PySem.W.fnOf "_law_fr" "_law_fr" (defArgs s__law_fr) (defBody s__law_fr) (defScope s__law_fr) .none kV17 dc17 pm17 an17 cd17 ct17), sl17⟩) (c17 : PySem.W.codeIn K cd17 "_law_fr" = true) (k17 : PySem.W.keepIn K (.ref fa17) = true)
    {fa18 : Addr} {od18 an18 : Option Addr} {sl18 : Array (Option Value)} {oc18 kV18 dc18 pm18 cd18 ct18 : Value}
    (a18 : PySem.W.nsIn K mainGlobals "_law_add" = some (some (.ref fa18))) (l18 : K.lookup fa18 = some ⟨oc18, od18, .func (PySem.W.fnOf "_law_add" "_law_add" (defArgs s__law_add) (defBody s__law_add) (defScope s__law_add) .none kV18 dc18 pm18 an18 cd18 ct18), sl18⟩) (c18 : PySem.W.codeIn K cd18 "_law_add" = true) (k18 : PySem.W.keepIn K (.ref fa18) = true)
    {fa19 : Addr} {od19 an19 : Option Addr} {sl19 : Array (Option Value)} {oc19 kV19 dc19 pm19 cd19 ct19 : Value}
    (a19 : PySem.W.nsIn K mainGlobals "_law_div" = some (some (.ref fa19))) (l19 : K.lookup fa19 = some ⟨oc19, od19, .func (PySem.W.fnOf "_law_div" "_law_div" (defArgs s__law_div) (defBody s__law_div) (defScope s__law_div) .none kV19 dc19 pm19 an19 cd19 ct19), sl19⟩) (c19 : PySem.W.codeIn K cd19 "_law_div" = true) (k19 : PySem.W.keepIn K (.ref fa19) = true)
    {fa20 : Addr} {od20 an20 : Option Addr} {sl20 : Array (Option Value)} {oc20 kV20 dc20 pm20 cd20 ct20 : Value}
    (a20 : PySem.W.nsIn K mainGlobals "_law_mul" = some (some (.ref fa20))) (l20 : K.lookup fa20 = some ⟨oc20, od20, .func (PySem.W.fnOf "_law_mul" "_law_mul" (defArgs s__law_mul) (defBody s__law_mul) (defScope s__law_mul) .none kV20 dc20 pm20 an20 cd20 ct20), sl20⟩) (c20 : PySem.W.codeIn K cd20 "_law_mul" = true) (k20 : PySem.W.keepIn K (.ref fa20) = true)
    {fa21 : Addr} {od21 an21 : Option Addr} {sl21 : Array (Option Value)} {oc21 kV21 dc21 pm21 cd21 ct21 : Value}
    (a21 : PySem.W.nsIn K mainGlobals "_law_after" = some (some (.ref fa21))) (l21 : K.lookup fa21 = some ⟨oc21, od21, .func (PySem.W.fnOf "_law_after" "_law_after" (defArgs s__law_after) (defBody s__law_after) (defScope s__law_after) .none kV21 dc21 pm21 an21 cd21 ct21), sl21⟩) (c21 : PySem.W.codeIn K cd21 "_law_after" = true) (k21 : PySem.W.keepIn K (.ref fa21) = true)
    {fa22 : Addr} {od22 an22 : Option Addr} {sl22 : Array (Option Value)} {oc22 kV22 dc22 pm22 cd22 ct22 : Value}
    (a22 : PySem.W.nsIn K mainGlobals "_law_sub" = some (some (.ref fa22))) (l22 : K.lookup fa22 = some ⟨oc22, od22, .func (PySem.W.fnOf "_law_sub" "_law_sub" (defArgs s__law_sub) (defBody s__law_sub) (defScope s__law_sub) .none kV22 dc22 pm22 an22 cd22 ct22), sl22⟩) (c22 : PySem.W.codeIn K cd22 "_law_sub" = true) (k22 : PySem.W.keepIn K (.ref fa22) = true)
    {fa23 : Addr} {od23 an23 : Option Addr} {sl23 : Array (Option Value)} {oc23 kV23 dc23 pm23 cd23 ct23 : Value}
    (a23 : PySem.W.nsIn K mainGlobals "_law_over" = some (some (.ref fa23))) (l23 : K.lookup fa23 = some ⟨oc23, od23, .func (PySem.W.fnOf "_law_over" "_law_over" (defArgs s__law_over) (defBody s__law_over) (defScope s__law_over) .none kV23 dc23 pm23 an23 cd23 ct23), sl23⟩) (c23 : PySem.W.codeIn K cd23 "_law_over" = true) (k23 : PySem.W.keepIn K (.ref fa23) = true)
    {fa24 : Addr} {od24 an24 : Option Addr} {sl24 : Array (Option Value)} {oc24 kV24 dc24 pm24 cd24 ct24 : Value}
    (a24 : PySem.W.nsIn K mainGlobals "_law_through" = some (some (.ref fa24))) (l24 : K.lookup fa24 = some ⟨oc24, od24, .func (PySem.W.fnOf "_law_through" "_law_through" (defArgs s__law_through) (defBody s__law_through) (defScope s__law_through) .none kV24 dc24 pm24 an24 cd24 ct24), sl24⟩) (c24 : PySem.W.codeIn K cd24 "_law_through" = true) (k24 : PySem.W.keepIn K (.ref fa24) = true)
    {fa25 : Addr} {od25 an25 : Option Addr} {sl25 : Array (Option Value)} {oc25 kV25 dc25 pm25 cd25 ct25 : Value}
    (a25 : PySem.W.nsIn K mainGlobals "is_root" = some (some (.ref fa25))) (l25 : K.lookup fa25 = some ⟨oc25, od25, .func (PySem.W.fnOf "is_root" "is_root" (defArgs s_is_root) (defBody s_is_root) (defScope s_is_root) .none kV25 dc25 pm25 an25 cd25 ct25), sl25⟩) (c25 : PySem.W.codeIn K cd25 "is_root" = true) (k25 : PySem.W.keepIn K (.ref fa25) = true)
    {fa26 : Addr} {od26 an26 : Option Addr} {sl26 : Array (Option Value)} {oc26 kV26 dc26 pm26 cd26 ct26 : Value}
    (a26 : PySem.W.nsIn K mainGlobals "look_at_root" = some (some (.ref fa26))) (l26 : K.lookup fa26 = some ⟨oc26, od26, .func (PySem.W.fnOf "look_at_root" "look_at_root" (defArgs s_look_at_root) (defBody s_look_at_root) (defScope s_look_at_root) .none kV26 dc26 pm26 an26 cd26 ct26), sl26⟩) (c26 : PySem.W.codeIn K cd26 "look_at_root" = true) (k26 : PySem.W.keepIn K (.ref fa26) = true)
    {fa27 : Addr} {od27 an27 : Option Addr} {sl27 : Array (Option Value)} {oc27 kV27 dc27 pm27 cd27 ct27 : Value}
    (a27 : PySem.W.nsIn K mainGlobals "square_root" = some (some (.ref fa27))) (l27 : K.lookup fa27 = some ⟨oc27, od27, .func (PySem.W.fnOf "square_root" "square_root" (defArgs s_square_root) (defBody s_square_root) (defScope s_square_root) .none kV27 dc27 pm27 an27 cd27 ct27), sl27⟩) (c27 : PySem.W.codeIn K cd27 "square_root" = true) (k27 : PySem.W.keepIn K (.ref fa27) = true)
    {fa28 : Addr} {od28 an28 : Option Addr} {sl28 : Array (Option Value)} {oc28 kV28 dc28 pm28 cd28 ct28 : Value}
    (a28 : PySem.W.nsIn K mainGlobals "fraction_by" = some (some (.ref fa28))) (l28 : K.lookup fa28 = some ⟨oc28, od28, .func (PySem.W.fnOf "fraction_by" "fraction_by" (defArgs s_fraction_by) (defBody s_fraction_by) (defScope s_fraction_by) .none kV28 dc28 pm28 an28 cd28 ct28), sl28⟩) (c28 : PySem.W.codeIn K cd28 "fraction_by" = true) (k28 : PySem.W.keepIn K (.ref fa28) = true)
    {fa29 : Addr} {od29 an29 : Option Addr} {sl29 : Array (Option Value)} {oc29 kV29 dc29 pm29 cd29 ct29 : Value}
    (a29 : PySem.W.nsIn K mainGlobals "compare_by" = some (some (.ref fa29))) (l29 : K.lookup fa29 = some ⟨oc29, od29, .func (PySem.W.fnOf "compare_by" "compare_by" (defArgs s_compare_by) (defBody s_compare_by) (defScope s_compare_by) .none kV29 dc29 pm29 an29 cd29 ct29), sl29⟩) (c29 : PySem.W.codeIn K cd29 "compare_by" = true) (k29 : PySem.W.keepIn K (.ref fa29) = true)
    {fa30 : Addr} {od30 an30 : Option Addr} {sl30 : Array (Option Value)} {oc30 kV30 dc30 pm30 cd30 ct30 : Value}
    (a30 : PySem.W.nsIn K mainGlobals "order" = some (some (.ref fa30))) (l30 : K.lookup fa30 = some ⟨oc30, od30, .func (PySem.W.fnOf "order" "order" (defArgs s_order) (defBody s_order) (defScope s_order) .none kV30 dc30 pm30 an30 cd30 ct30), sl30⟩) (c30 : PySem.W.codeIn K cd30 "order" = true) (k30 : PySem.W.keepIn K (.ref fa30) = true)
    {fa31 : Addr} {od31 an31 : Option Addr} {sl31 : Array (Option Value)} {oc31 kV31 dc31 pm31 cd31 ct31 : Value}
    (a31 : PySem.W.nsIn K mainGlobals "is_number" = some (some (.ref fa31))) (l31 : K.lookup fa31 = some ⟨oc31, od31, .func (PySem.W.fnOf "is_number" "is_number" (defArgs s_is_number) (defBody s_is_number) (defScope s_is_number) .none kV31 dc31 pm31 an31 cd31 ct31), sl31⟩) (c31 : PySem.W.codeIn K cd31 "is_number" = true) (k31 : PySem.W.keepIn K (.ref fa31) = true)
    {fa32 : Addr} {od32 an32 : Option Addr} {sl32 : Array (Option Value)} {oc32 kV32 dc32 pm32 cd32 ct32 : Value}
    (a32 : PySem.W.nsIn K mainGlobals "over" = some (some (.ref fa32))) (l32 : K.lookup fa32 = some ⟨oc32, od32, .func (PySem.W.fnOf "over" "over" (defArgs s_over) (defBody s_over) (defScope s_over) .none kV32 dc32 pm32 an32 cd32 ct32), sl32⟩) (c32 : PySem.W.codeIn K cd32 "over" = true) (k32 : PySem.W.keepIn K (.ref fa32) = true)
    {fa33 : Addr} {od33 an33 : Option Addr} {sl33 : Array (Option Value)} {oc33 kV33 dc33 pm33 cd33 ct33 : Value}
    (a33 : PySem.W.nsIn K mainGlobals "ahead" = some (some (.ref fa33))) (l33 : K.lookup fa33 = some ⟨oc33, od33, .func (PySem.W.fnOf "ahead" "ahead" (defArgs s_ahead) (defBody s_ahead) (defScope s_ahead) .none kV33 dc33 pm33 an33 cd33 ct33), sl33⟩) (c33 : PySem.W.codeIn K cd33 "ahead" = true) (k33 : PySem.W.keepIn K (.ref fa33) = true)
    {fa34 : Addr} {od34 an34 : Option Addr} {sl34 : Array (Option Value)} {oc34 kV34 dc34 pm34 cd34 ct34 : Value}
    (a34 : PySem.W.nsIn K mainGlobals "ahead_of_all" = some (some (.ref fa34))) (l34 : K.lookup fa34 = some ⟨oc34, od34, .func (PySem.W.fnOf "ahead_of_all" "ahead_of_all" (defArgs s_ahead_of_all) (defBody s_ahead_of_all) (defScope s_ahead_of_all) .none kV34 dc34 pm34 an34 cd34 ct34), sl34⟩) (c34 : PySem.W.codeIn K cd34 "ahead_of_all" = true) (k34 : PySem.W.keepIn K (.ref fa34) = true)
    {fa35 : Addr} {od35 an35 : Option Addr} {sl35 : Array (Option Value)} {oc35 kV35 dc35 pm35 cd35 ct35 : Value}
    (a35 : PySem.W.nsIn K mainGlobals "less" = some (some (.ref fa35))) (l35 : K.lookup fa35 = some ⟨oc35, od35, .func (PySem.W.fnOf "less" "less" (defArgs s_less) (defBody s_less) (defScope s_less) .none kV35 dc35 pm35 an35 cd35 ct35), sl35⟩) (c35 : PySem.W.codeIn K cd35 "less" = true) (k35 : PySem.W.keepIn K (.ref fa35) = true)
    {fa36 : Addr} {od36 an36 : Option Addr} {sl36 : Array (Option Value)} {oc36 kV36 dc36 pm36 cd36 ct36 : Value}
    (a36 : PySem.W.nsIn K mainGlobals "parts_enough" = some (some (.ref fa36))) (l36 : K.lookup fa36 = some ⟨oc36, od36, .func (PySem.W.fnOf "parts_enough" "parts_enough" (defArgs s_parts_enough) (defBody s_parts_enough) (defScope s_parts_enough) .none kV36 dc36 pm36 an36 cd36 ct36), sl36⟩) (c36 : PySem.W.codeIn K cd36 "parts_enough" = true) (k36 : PySem.W.keepIn K (.ref fa36) = true)
    {fa37 : Addr} {od37 an37 : Option Addr} {sl37 : Array (Option Value)} {oc37 kV37 dc37 pm37 cd37 ct37 : Value}
    (a37 : PySem.W.nsIn K mainGlobals "_law_told" = some (some (.ref fa37))) (l37 : K.lookup fa37 = some ⟨oc37, od37, .func (PySem.W.fnOf "_law_told" "_law_told" (defArgs s__law_told) (defBody s__law_told) (defScope s__law_told) .none kV37 dc37 pm37 an37 cd37 ct37), sl37⟩) (c37 : PySem.W.codeIn K cd37 "_law_told" = true) (k37 : PySem.W.keepIn K (.ref fa37) = true)
    {fa38 : Addr} {od38 an38 : Option Addr} {sl38 : Array (Option Value)} {oc38 kV38 dc38 pm38 cd38 ct38 : Value}
    (a38 : PySem.W.nsIn K mainGlobals "compare" = some (some (.ref fa38))) (l38 : K.lookup fa38 = some ⟨oc38, od38, .func (PySem.W.fnOf "compare" "compare" (defArgs s_compare) (defBody s_compare) (defScope s_compare) .none kV38 dc38 pm38 an38 cd38 ct38), sl38⟩) (c38 : PySem.W.codeIn K cd38 "compare" = true) (k38 : PySem.W.keepIn K (.ref fa38) = true)
    {fa39 : Addr} {od39 an39 : Option Addr} {sl39 : Array (Option Value)} {oc39 kV39 dc39 pm39 cd39 ct39 : Value}
    (a39 : PySem.W.nsIn K mainGlobals "turned" = some (some (.ref fa39))) (l39 : K.lookup fa39 = some ⟨oc39, od39, .func (PySem.W.fnOf "turned" "turned" (defArgs s_turned) (defBody s_turned) (defScope s_turned) .none kV39 dc39 pm39 an39 cd39 ct39), sl39⟩) (c39 : PySem.W.codeIn K cd39 "turned" = true) (k39 : PySem.W.keepIn K (.ref fa39) = true)
    {fa40 : Addr} {od40 an40 : Option Addr} {sl40 : Array (Option Value)} {oc40 kV40 dc40 pm40 cd40 ct40 : Value}
    (a40 : PySem.W.nsIn K mainGlobals "_law_case" = some (some (.ref fa40))) (l40 : K.lookup fa40 = some ⟨oc40, od40, .func (PySem.W.fnOf "_law_case" "_law_case" (defArgs s__law_case) (defBody s__law_case) (defScope s__law_case) .none kV40 dc40 pm40 an40 cd40 ct40), sl40⟩) (c40 : PySem.W.codeIn K cd40 "_law_case" = true) (k40 : PySem.W.keepIn K (.ref fa40) = true)
    {fa41 : Addr} {od41 an41 : Option Addr} {sl41 : Array (Option Value)} {oc41 kV41 dc41 pm41 cd41 ct41 : Value}
    (a41 : PySem.W.nsIn K mainGlobals "_law_bag" = some (some (.ref fa41))) (l41 : K.lookup fa41 = some ⟨oc41, od41, .func (PySem.W.fnOf "_law_bag" "_law_bag" (defArgs s__law_bag) (defBody s__law_bag) (defScope s__law_bag) .none kV41 dc41 pm41 an41 cd41 ct41), sl41⟩) (c41 : PySem.W.codeIn K cd41 "_law_bag" = true) (k41 : PySem.W.keepIn K (.ref fa41) = true)
    {fa42 : Addr} {od42 an42 : Option Addr} {sl42 : Array (Option Value)} {oc42 kV42 dc42 pm42 cd42 ct42 : Value}
    (a42 : PySem.W.nsIn K mainGlobals "law" = some (some (.ref fa42))) (l42 : K.lookup fa42 = some ⟨oc42, od42, .func (PySem.W.fnOf "law" "law" (defArgs s_law) (defBody s_law) (defScope s_law) .none kV42 dc42 pm42 an42 cd42 ct42), sl42⟩) (c42 : PySem.W.codeIn K cd42 "law" = true) (k42 : PySem.W.keepIn K (.ref fa42) = true)
    {C0 : Addr} (ca0 : PySem.W.nsIn K mainGlobals "BadValue" = some (some (.ref C0))) (cx0 : PySem.W.excIn K C0 veL "ValueError.__new__" = true) (ck0 : PySem.W.keepIn K (.ref C0) = true) (cs0 : PySem.W.subIn K (.ref C0) (.type "BaseException") = some true) (ct1000 : PySem.W.typeIn K (.ref C0) = some (.type "type"))
    (ci0 : PySem.W.isClsIn K C0 = true)
    {C1 : Addr} (ca1 : PySem.W.nsIn K mainGlobals "NoSuch" = some (some (.ref C1))) (cx1 : PySem.W.excIn K C1 veL "ValueError.__new__" = true) (ck1 : PySem.W.keepIn K (.ref C1) = true) (cs1 : PySem.W.subIn K (.ref C1) (.type "BaseException") = some true) (ct1001 : PySem.W.typeIn K (.ref C1) = some (.type "type"))
    (ci1 : PySem.W.isClsIn K C1 = true)
    {C2 : Addr} (ca2 : PySem.W.nsIn K mainGlobals "TooFar" = some (some (.ref C2))) (cx2 : PySem.W.excIn K C2 veL "ValueError.__new__" = true) (ck2 : PySem.W.keepIn K (.ref C2) = true) (cs2 : PySem.W.subIn K (.ref C2) (.type "BaseException") = some true) (ct1002 : PySem.W.typeIn K (.ref C2) = some (.type "type"))
    (ci2 : PySem.W.isClsIn K C2 = true)
    (e0_0 : PySem.W.subIn K (.ref C0) (.ref C0) = some true)
    (e0_1 : PySem.W.subIn K (.ref C0) (.ref C1) = some false)
    (e0_2 : PySem.W.subIn K (.ref C0) (.ref C2) = some false)
    (e1_0 : PySem.W.subIn K (.ref C1) (.ref C0) = some false)
    (e1_1 : PySem.W.subIn K (.ref C1) (.ref C1) = some true)
    (e1_2 : PySem.W.subIn K (.ref C1) (.ref C2) = some false)
    (e2_0 : PySem.W.subIn K (.ref C2) (.ref C0) = some false)
    (e2_1 : PySem.W.subIn K (.ref C2) (.ref C1) = some false)
    (e2_2 : PySem.W.subIn K (.ref C2) (.ref C2) = some true)
    {t0 : Tok} (ga0 : PySem.W.nsIn K mainGlobals "BEYOND" = some (some (.int 100000000000000000000 t0)))
    {t1 : Tok} (ga1 : PySem.W.nsIn K mainGlobals "MOST_PARTS" = some (some (.int 12 t1)))
    {t2 : Tok} (ga2 : PySem.W.nsIn K mainGlobals "MOST_TIMES" = some (some (.int 40 t2)))
    {z3 : Addr} {t3_0 t3_1 : Tok} {zd3 : Option Addr} {zn3 : Nat} {zs3 : Array (Option Value)} (ga3 : PySem.W.nsIn K mainGlobals "ONE" = some (some (.ref z3))) (gb3 : K.lookup z3 = some ⟨.type "tuple", zd3, .seq #[.int 1 t3_0, .int 1 t3_1] zn3, zs3⟩)
    {z4 : Addr} {t4_0 t4_1 : Tok} {zd4 : Option Addr} {zn4 : Nat} {zs4 : Array (Option Value)} (ga4 : PySem.W.nsIn K mainGlobals "ZERO" = some (some (.ref z4))) (gb4 : K.lookup z4 = some ⟨.type "tuple", zd4, .seq #[.int 0 t4_0, .int 1 t4_1] zn4, zs4⟩)
    (z5000 : PySem.W.nsIn K mainGlobals "abs" = some none)
    (z5001 : PySem.W.nsIn K mainGlobals "all" = some none)
    (z5002 : PySem.W.nsIn K mainGlobals "bool" = some none)
    (z5003 : PySem.W.nsIn K mainGlobals "int" = some none)
    (z5004 : PySem.W.nsIn K mainGlobals "isinstance" = some none)
    (z5005 : PySem.W.nsIn K mainGlobals "len" = some none)
    (z5006 : PySem.W.nsIn K mainGlobals "max" = some none)
    (z5007 : PySem.W.nsIn K mainGlobals "min" = some none)
    (z5008 : PySem.W.nsIn K mainGlobals "range" = some none)
    (z5009 : PySem.W.nsIn K mainGlobals "str" = some none)
    (z5010 : PySem.W.nsIn K mainGlobals "tuple" = some none)
    : Top K mg ⟨fun x => [("common", fa0), ("is_any_fraction", fa1), ("is_fraction", fa2), ("sign", fa3), ("is_part", fa4), ("look_at_ladder", fa5), ("greatest_divisor", fa6), ("fraction", fa7), ("minus", fa8), ("plus", fa9), ("times", fa10), ("product", fa11), ("endless_by", fa12), ("endless", fa13), ("_law_draw", fa14), ("_law_ladder", fa15), ("_law_whole", fa16), ("_law_fr", fa17), ("_law_add", fa18), ("_law_div", fa19), ("_law_mul", fa20), ("_law_after", fa21), ("_law_sub", fa22), ("_law_over", fa23), ("_law_through", fa24), ("is_root", fa25), ("look_at_root", fa26), ("square_root", fa27), ("fraction_by", fa28), ("compare_by", fa29), ("order", fa30), ("is_number", fa31), ("over", fa32), ("ahead", fa33), ("ahead_of_all", fa34), ("less", fa35), ("parts_enough", fa36), ("_law_told", fa37), ("compare", fa38), ("turned", fa39), ("_law_case", fa40), ("_law_bag", fa41), ("law", fa42)].lookup x, fun x => [("BadValue", C0), ("NoSuch", C1), ("TooFar", C2)].lookup x, fun x => ([("BEYOND", (.int 100000000000000000000 : V)), ("MOST_PARTS", (.int 12 : V)), ("MOST_TIMES", (.int 40 : V)), ("ONE", (.ref z3 : V)), ("ZERO", (.ref z4 : V))].lookup x).getD .non, K⟩ := by
  refine ⟨⟨fa0, _, fun_mk l0 c0 k0, PySem.W.mg_of X Gn a0, rfl⟩, ⟨fa1, _, fun_mk l1 c1 k1, PySem.W.mg_of X Gn a1, rfl⟩, ⟨fa2, _, fun_mk l2 c2 k2, PySem.W.mg_of X Gn a2, rfl⟩, ⟨fa3, _, fun_mk l3 c3 k3, PySem.W.mg_of X Gn a3, rfl⟩, ⟨fa4, _, fun_mk l4 c4 k4, PySem.W.mg_of X Gn a4, rfl⟩, ⟨fa5, _, fun_mk l5 c5 k5, PySem.W.mg_of X Gn a5, rfl⟩, ⟨fa6, _, fun_mk l6 c6 k6, PySem.W.mg_of X Gn a6, rfl⟩, ⟨fa7, _, fun_mk l7 c7 k7, PySem.W.mg_of X Gn a7, rfl⟩, ⟨fa8, _, fun_mk l8 c8 k8, PySem.W.mg_of X Gn a8, rfl⟩, ⟨fa9, _, fun_mk l9 c9 k9, PySem.W.mg_of X Gn a9, rfl⟩, ⟨fa10, _, fun_mk l10 c10 k10, PySem.W.mg_of X Gn a10, rfl⟩, ⟨fa11, _, fun_mk l11 c11 k11, PySem.W.mg_of X Gn a11, rfl⟩, ⟨fa12, _, fun_mk l12 c12 k12, PySem.W.mg_of X Gn a12, rfl⟩, ⟨fa13, _, fun_mk l13 c13 k13, PySem.W.mg_of X Gn a13, rfl⟩, ⟨fa14, _, fun_mk l14 c14 k14, PySem.W.mg_of X Gn a14, rfl⟩, ⟨fa15, _, fun_mk l15 c15 k15, PySem.W.mg_of X Gn a15, rfl⟩, ⟨fa16, _, fun_mk l16 c16 k16, PySem.W.mg_of X Gn a16, rfl⟩, ⟨fa17, _, fun_mk l17 c17 k17, PySem.W.mg_of X Gn a17, rfl⟩, ⟨fa18, _, fun_mk l18 c18 k18, PySem.W.mg_of X Gn a18, rfl⟩, ⟨fa19, _, fun_mk l19 c19 k19, PySem.W.mg_of X Gn a19, rfl⟩, ⟨fa20, _, fun_mk l20 c20 k20, PySem.W.mg_of X Gn a20, rfl⟩, ⟨fa21, _, fun_mk l21 c21 k21, PySem.W.mg_of X Gn a21, rfl⟩, ⟨fa22, _, fun_mk l22 c22 k22, PySem.W.mg_of X Gn a22, rfl⟩, ⟨fa23, _, fun_mk l23 c23 k23, PySem.W.mg_of X Gn a23, rfl⟩, ⟨fa24, _, fun_mk l24 c24 k24, PySem.W.mg_of X Gn a24, rfl⟩, ⟨fa25, _, fun_mk l25 c25 k25, PySem.W.mg_of X Gn a25, rfl⟩, ⟨fa26, _, fun_mk l26 c26 k26, PySem.W.mg_of X Gn a26, rfl⟩, ⟨fa27, _, fun_mk l27 c27 k27, PySem.W.mg_of X Gn a27, rfl⟩, ⟨fa28, _, fun_mk l28 c28 k28, PySem.W.mg_of X Gn a28, rfl⟩, ⟨fa29, _, fun_mk l29 c29 k29, PySem.W.mg_of X Gn a29, rfl⟩, ⟨fa30, _, fun_mk l30 c30 k30, PySem.W.mg_of X Gn a30, rfl⟩, ⟨fa31, _, fun_mk l31 c31 k31, PySem.W.mg_of X Gn a31, rfl⟩, ⟨fa32, _, fun_mk l32 c32 k32, PySem.W.mg_of X Gn a32, rfl⟩, ⟨fa33, _, fun_mk l33 c33 k33, PySem.W.mg_of X Gn a33, rfl⟩, ⟨fa34, _, fun_mk l34 c34 k34, PySem.W.mg_of X Gn a34, rfl⟩, ⟨fa35, _, fun_mk l35 c35 k35, PySem.W.mg_of X Gn a35, rfl⟩, ⟨fa36, _, fun_mk l36 c36 k36, PySem.W.mg_of X Gn a36, rfl⟩, ⟨fa37, _, fun_mk l37 c37 k37, PySem.W.mg_of X Gn a37, rfl⟩, ⟨fa38, _, fun_mk l38 c38 k38, PySem.W.mg_of X Gn a38, rfl⟩, ⟨fa39, _, fun_mk l39 c39 k39, PySem.W.mg_of X Gn a39, rfl⟩, ⟨fa40, _, fun_mk l40 c40 k40, PySem.W.mg_of X Gn a40, rfl⟩, ⟨fa41, _, fun_mk l41 c41 k41, PySem.W.mg_of X Gn a41, rfl⟩, ⟨fa42, _, fun_mk l42 c42 k42, PySem.W.mg_of X Gn a42, rfl⟩, PySem.W.mg_none_of X Gn z5000, PySem.W.mg_none_of X Gn z5001, PySem.W.mg_none_of X Gn z5002, PySem.W.mg_none_of X Gn z5003, PySem.W.mg_none_of X Gn z5004, PySem.W.mg_none_of X Gn z5005, PySem.W.mg_none_of X Gn z5006, PySem.W.mg_none_of X Gn z5007, PySem.W.mg_none_of X Gn z5008, PySem.W.mg_none_of X Gn z5009, PySem.W.mg_none_of X Gn z5010, ⟨C0, rfl, PySem.W.mg_of X Gn ca0, cx0, ck0, cs0, ct1000⟩, ⟨C1, rfl, PySem.W.mg_of X Gn ca1, cx1, ck1, cs1, ct1001⟩, ⟨C2, rfl, PySem.W.mg_of X Gn ca2, cx2, ck2, cs2, ct1002⟩, ⟨⟨_, PySem.W.mg_of X Gn ga0, ⟨_, rfl⟩, fun H μ => .int _⟩⟩, ⟨⟨_, PySem.W.mg_of X Gn ga1, ⟨_, rfl⟩, fun H μ => .int _⟩⟩, ⟨⟨_, PySem.W.mg_of X Gn ga2, ⟨_, rfl⟩, fun H μ => .int _⟩⟩, ⟨⟨_, PySem.W.mg_of X Gn ga3, rfl, fun H μ => .tupK gb3 rfl rfl (by show 2 ≤ sizeLine; decide) (.cons (show RelV (V.int 1) _ from ⟨_, rfl⟩) (.cons (show RelV (V.int 1) _ from ⟨_, rfl⟩) (.nil))) (.cons (.int _) (.cons (.int _) (.nil)))⟩⟩, ⟨⟨_, PySem.W.mg_of X Gn ga4, rfl, fun H μ => .tupK gb4 rfl rfl (by show 2 ≤ sizeLine; decide) (.cons (show RelV (V.int 0) _ from ⟨_, rfl⟩) (.cons (show RelV (V.int 1) _ from ⟨_, rfl⟩) (.nil))) (.cons (.int _) (.cons (.int _) (.nil)))⟩⟩, ?_⟩
  refine exm_mk (cs := [("BadValue", C0), ("NoSuch", C1), ("TooFar", C2)]) ?_
  intro p hp q hq
  simp only [List.mem_cons, List.not_mem_nil, or_false] at hp hq
  rcases hp with rfl | rfl | rfl <;> rcases hq with rfl | rfl | rfl
  · exact (exm_of cs0 ci0 ct1000 e0_0).trans (by rfl)
  · exact (exm_of cs1 ci1 ct1001 e0_1).trans (by rfl)
  · exact (exm_of cs2 ci2 ct1002 e0_2).trans (by rfl)
  · exact (exm_of cs0 ci0 ct1000 e1_0).trans (by rfl)
  · exact (exm_of cs1 ci1 ct1001 e1_1).trans (by rfl)
  · exact (exm_of cs2 ci2 ct1002 e1_2).trans (by rfl)
  · exact (exm_of cs0 ci0 ct1000 e2_0).trans (by rfl)
  · exact (exm_of cs1 ci1 ct1001 e2_1).trans (by rfl)
  · exact (exm_of cs2 ci2 ct1002 e2_2).trans (by rfl)
theorem law_mk {l : PySem.W.OpenLaw} {w : World} {K : PySem.W.Frag} {h : Heap} {mg : Str → Option Value} {fa : Addr} (X : K.In h) (Gn : h.Ns mainGlobals mg) (hfa : mg "law" = some (.ref fa)) (hr : ∀ ns : List Int, ns.length ≤ 63 → r_law [.scr ns] [] = .ok (.bl true) [])
    {fa0 : Addr} {od0 an0 : Option Addr} {sl0 : Array (Option Value)} {oc0 kV0 dc0 pm0 cd0 ct0 : Value}
    (a0 : PySem.W.nsIn K mainGlobals "common" = some (some (.ref fa0))) (l0 : K.lookup fa0 = some ⟨oc0, od0, .func (PySem.W.fnOf "common" "common" (defArgs s_common) (defBody s_common) (defScope s_common) .none kV0 dc0 pm0 an0 cd0 ct0), sl0⟩) (c0 : PySem.W.codeIn K cd0 "common" = true) (k0 : PySem.W.keepIn K (.ref fa0) = true)
    {fa1 : Addr} {od1 an1 : Option Addr} {sl1 : Array (Option Value)} {oc1 kV1 dc1 pm1 cd1 ct1 : Value}
    (a1 : PySem.W.nsIn K mainGlobals "is_any_fraction" = some (some (.ref fa1))) (l1 : K.lookup fa1 = some ⟨oc1, od1, .func (PySem.W.fnOf "is_any_fraction" "is_any_fraction" (defArgs s_is_any_fraction) (defBody s_is_any_fraction) (defScope s_is_any_fraction) .none kV1 dc1 pm1 an1 cd1 ct1), sl1⟩) (c1 : PySem.W.codeIn K cd1 "is_any_fraction" = true) (k1 : PySem.W.keepIn K (.ref fa1) = true)
    {fa2 : Addr} {od2 an2 : Option Addr} {sl2 : Array (Option Value)} {oc2 kV2 dc2 pm2 cd2 ct2 : Value}
    (a2 : PySem.W.nsIn K mainGlobals "is_fraction" = some (some (.ref fa2))) (l2 : K.lookup fa2 = some ⟨oc2, od2, .func (PySem.W.fnOf "is_fraction" "is_fraction" (defArgs s_is_fraction) (defBody s_is_fraction) (defScope s_is_fraction) .none kV2 dc2 pm2 an2 cd2 ct2), sl2⟩) (c2 : PySem.W.codeIn K cd2 "is_fraction" = true) (k2 : PySem.W.keepIn K (.ref fa2) = true)
    {fa3 : Addr} {od3 an3 : Option Addr} {sl3 : Array (Option Value)} {oc3 kV3 dc3 pm3 cd3 ct3 : Value}
    (a3 : PySem.W.nsIn K mainGlobals "sign" = some (some (.ref fa3))) (l3 : K.lookup fa3 = some ⟨oc3, od3, .func (PySem.W.fnOf "sign" "sign" (defArgs s_sign) (defBody s_sign) (defScope s_sign) .none kV3 dc3 pm3 an3 cd3 ct3), sl3⟩) (c3 : PySem.W.codeIn K cd3 "sign" = true) (k3 : PySem.W.keepIn K (.ref fa3) = true)
    {fa4 : Addr} {od4 an4 : Option Addr} {sl4 : Array (Option Value)} {oc4 kV4 dc4 pm4 cd4 ct4 : Value}
    (a4 : PySem.W.nsIn K mainGlobals "is_part" = some (some (.ref fa4))) (l4 : K.lookup fa4 = some ⟨oc4, od4, .func (PySem.W.fnOf "is_part" "is_part" (defArgs s_is_part) (defBody s_is_part) (defScope s_is_part) .none kV4 dc4 pm4 an4 cd4 ct4), sl4⟩) (c4 : PySem.W.codeIn K cd4 "is_part" = true) (k4 : PySem.W.keepIn K (.ref fa4) = true)
    {fa5 : Addr} {od5 an5 : Option Addr} {sl5 : Array (Option Value)} {oc5 kV5 dc5 pm5 cd5 ct5 : Value}
    (a5 : PySem.W.nsIn K mainGlobals "look_at_ladder" = some (some (.ref fa5))) (l5 : K.lookup fa5 = some ⟨oc5, od5, .func (PySem.W.fnOf "look_at_ladder" "look_at_ladder" (defArgs s_look_at_ladder) (defBody s_look_at_ladder) (defScope s_look_at_ladder) .none kV5 dc5 pm5 an5 cd5 ct5), sl5⟩) (c5 : PySem.W.codeIn K cd5 "look_at_ladder" = true) (k5 : PySem.W.keepIn K (.ref fa5) = true)
    {fa6 : Addr} {od6 an6 : Option Addr} {sl6 : Array (Option Value)} {oc6 kV6 dc6 pm6 cd6 ct6 : Value}
    (a6 : PySem.W.nsIn K mainGlobals "greatest_divisor" = some (some (.ref fa6))) (l6 : K.lookup fa6 = some ⟨oc6, od6, .func (PySem.W.fnOf "greatest_divisor" "greatest_divisor" (defArgs s_greatest_divisor) (defBody s_greatest_divisor) (defScope s_greatest_divisor) .none kV6 dc6 pm6 an6 cd6 ct6), sl6⟩) (c6 : PySem.W.codeIn K cd6 "greatest_divisor" = true) (k6 : PySem.W.keepIn K (.ref fa6) = true)
    {fa7 : Addr} {od7 an7 : Option Addr} {sl7 : Array (Option Value)} {oc7 kV7 dc7 pm7 cd7 ct7 : Value}
    (a7 : PySem.W.nsIn K mainGlobals "fraction" = some (some (.ref fa7))) (l7 : K.lookup fa7 = some ⟨oc7, od7, .func (PySem.W.fnOf "fraction" "fraction" (defArgs s_fraction) (defBody s_fraction) (defScope s_fraction) .none kV7 dc7 pm7 an7 cd7 ct7), sl7⟩) (c7 : PySem.W.codeIn K cd7 "fraction" = true) (k7 : PySem.W.keepIn K (.ref fa7) = true)
    {fa8 : Addr} {od8 an8 : Option Addr} {sl8 : Array (Option Value)} {oc8 kV8 dc8 pm8 cd8 ct8 : Value}
    (a8 : PySem.W.nsIn K mainGlobals "minus" = some (some (.ref fa8))) (l8 : K.lookup fa8 = some ⟨oc8, od8, .func (PySem.W.fnOf "minus" "minus" (defArgs s_minus) (defBody s_minus) (defScope s_minus) .none kV8 dc8 pm8 an8 cd8 ct8), sl8⟩) (c8 : PySem.W.codeIn K cd8 "minus" = true) (k8 : PySem.W.keepIn K (.ref fa8) = true)
    {fa9 : Addr} {od9 an9 : Option Addr} {sl9 : Array (Option Value)} {oc9 kV9 dc9 pm9 cd9 ct9 : Value}
    (a9 : PySem.W.nsIn K mainGlobals "plus" = some (some (.ref fa9))) (l9 : K.lookup fa9 = some ⟨oc9, od9, .func (PySem.W.fnOf "plus" "plus" (defArgs s_plus) (defBody s_plus) (defScope s_plus) .none kV9 dc9 pm9 an9 cd9 ct9), sl9⟩) (c9 : PySem.W.codeIn K cd9 "plus" = true) (k9 : PySem.W.keepIn K (.ref fa9) = true)
    {fa10 : Addr} {od10 an10 : Option Addr} {sl10 : Array (Option Value)} {oc10 kV10 dc10 pm10 cd10 ct10 : Value}
    (a10 : PySem.W.nsIn K mainGlobals "times" = some (some (.ref fa10))) (l10 : K.lookup fa10 = some ⟨oc10, od10, .func (PySem.W.fnOf "times" "times" (defArgs s_times) (defBody s_times) (defScope s_times) .none kV10 dc10 pm10 an10 cd10 ct10), sl10⟩) (c10 : PySem.W.codeIn K cd10 "times" = true) (k10 : PySem.W.keepIn K (.ref fa10) = true)
    {fa11 : Addr} {od11 an11 : Option Addr} {sl11 : Array (Option Value)} {oc11 kV11 dc11 pm11 cd11 ct11 : Value}
    (a11 : PySem.W.nsIn K mainGlobals "product" = some (some (.ref fa11))) (l11 : K.lookup fa11 = some ⟨oc11, od11, .func (PySem.W.fnOf "product" "product" (defArgs s_product) (defBody s_product) (defScope s_product) .none kV11 dc11 pm11 an11 cd11 ct11), sl11⟩) (c11 : PySem.W.codeIn K cd11 "product" = true) (k11 : PySem.W.keepIn K (.ref fa11) = true)
    {fa12 : Addr} {od12 an12 : Option Addr} {sl12 : Array (Option Value)} {oc12 kV12 dc12 pm12 cd12 ct12 : Value}
    (a12 : PySem.W.nsIn K mainGlobals "endless_by" = some (some (.ref fa12))) (l12 : K.lookup fa12 = some ⟨oc12, od12, .func (PySem.W.fnOf "endless_by" "endless_by" (defArgs s_endless_by) (defBody s_endless_by) (defScope s_endless_by) .none kV12 dc12 pm12 an12 cd12 ct12), sl12⟩) (c12 : PySem.W.codeIn K cd12 "endless_by" = true) (k12 : PySem.W.keepIn K (.ref fa12) = true)
    {fa13 : Addr} {od13 an13 : Option Addr} {sl13 : Array (Option Value)} {oc13 kV13 dc13 pm13 cd13 ct13 : Value}
    (a13 : PySem.W.nsIn K mainGlobals "endless" = some (some (.ref fa13))) (l13 : K.lookup fa13 = some ⟨oc13, od13, .func (PySem.W.fnOf "endless" "endless" (defArgs s_endless) (defBody s_endless) (defScope s_endless) .none kV13 dc13 pm13 an13 cd13 ct13), sl13⟩) (c13 : PySem.W.codeIn K cd13 "endless" = true) (k13 : PySem.W.keepIn K (.ref fa13) = true)
    {fa14 : Addr} {od14 an14 : Option Addr} {sl14 : Array (Option Value)} {oc14 kV14 dc14 pm14 cd14 ct14 : Value}
    (a14 : PySem.W.nsIn K mainGlobals "_law_draw" = some (some (.ref fa14))) (l14 : K.lookup fa14 = some ⟨oc14, od14, .func (PySem.W.fnOf "_law_draw" "_law_draw" (defArgs s__law_draw) (defBody s__law_draw) (defScope s__law_draw) .none kV14 dc14 pm14 an14 cd14 ct14), sl14⟩) (c14 : PySem.W.codeIn K cd14 "_law_draw" = true) (k14 : PySem.W.keepIn K (.ref fa14) = true)
    {fa15 : Addr} {od15 an15 : Option Addr} {sl15 : Array (Option Value)} {oc15 kV15 dc15 pm15 cd15 ct15 : Value}
    (a15 : PySem.W.nsIn K mainGlobals "_law_ladder" = some (some (.ref fa15))) (l15 : K.lookup fa15 = some ⟨oc15, od15, .func (PySem.W.fnOf "_law_ladder" "_law_ladder" (defArgs s__law_ladder) (defBody s__law_ladder) (defScope s__law_ladder) .none kV15 dc15 pm15 an15 cd15 ct15), sl15⟩) (c15 : PySem.W.codeIn K cd15 "_law_ladder" = true) (k15 : PySem.W.keepIn K (.ref fa15) = true)
    {fa16 : Addr} {od16 an16 : Option Addr} {sl16 : Array (Option Value)} {oc16 kV16 dc16 pm16 cd16 ct16 : Value}
    (a16 : PySem.W.nsIn K mainGlobals "_law_whole" = some (some (.ref fa16))) (l16 : K.lookup fa16 = some ⟨oc16, od16, .func (PySem.W.fnOf "_law_whole" "_law_whole" (defArgs s__law_whole) (defBody s__law_whole) (defScope s__law_whole) .none kV16 dc16 pm16 an16 cd16 ct16), sl16⟩) (c16 : PySem.W.codeIn K cd16 "_law_whole" = true) (k16 : PySem.W.keepIn K (.ref fa16) = true)
    {fa17 : Addr} {od17 an17 : Option Addr} {sl17 : Array (Option Value)} {oc17 kV17 dc17 pm17 cd17 ct17 : Value}
    (a17 : PySem.W.nsIn K mainGlobals "_law_fr" = some (some (.ref fa17))) (l17 : K.lookup fa17 = some ⟨oc17, od17, .func (PySem.W.fnOf "_law_fr" "_law_fr" (defArgs s__law_fr) (defBody s__law_fr) (defScope s__law_fr) .none kV17 dc17 pm17 an17 cd17 ct17), sl17⟩) (c17 : PySem.W.codeIn K cd17 "_law_fr" = true) (k17 : PySem.W.keepIn K (.ref fa17) = true)
    {fa18 : Addr} {od18 an18 : Option Addr} {sl18 : Array (Option Value)} {oc18 kV18 dc18 pm18 cd18 ct18 : Value}
    (a18 : PySem.W.nsIn K mainGlobals "_law_add" = some (some (.ref fa18))) (l18 : K.lookup fa18 = some ⟨oc18, od18, .func (PySem.W.fnOf "_law_add" "_law_add" (defArgs s__law_add) (defBody s__law_add) (defScope s__law_add) .none kV18 dc18 pm18 an18 cd18 ct18), sl18⟩) (c18 : PySem.W.codeIn K cd18 "_law_add" = true) (k18 : PySem.W.keepIn K (.ref fa18) = true)
    {fa19 : Addr} {od19 an19 : Option Addr} {sl19 : Array (Option Value)} {oc19 kV19 dc19 pm19 cd19 ct19 : Value}
    (a19 : PySem.W.nsIn K mainGlobals "_law_div" = some (some (.ref fa19))) (l19 : K.lookup fa19 = some ⟨oc19, od19, .func (PySem.W.fnOf "_law_div" "_law_div" (defArgs s__law_div) (defBody s__law_div) (defScope s__law_div) .none kV19 dc19 pm19 an19 cd19 ct19), sl19⟩) (c19 : PySem.W.codeIn K cd19 "_law_div" = true) (k19 : PySem.W.keepIn K (.ref fa19) = true)
    {fa20 : Addr} {od20 an20 : Option Addr} {sl20 : Array (Option Value)} {oc20 kV20 dc20 pm20 cd20 ct20 : Value}
    (a20 : PySem.W.nsIn K mainGlobals "_law_mul" = some (some (.ref fa20))) (l20 : K.lookup fa20 = some ⟨oc20, od20, .func (PySem.W.fnOf "_law_mul" "_law_mul" (defArgs s__law_mul) (defBody s__law_mul) (defScope s__law_mul) .none kV20 dc20 pm20 an20 cd20 ct20), sl20⟩) (c20 : PySem.W.codeIn K cd20 "_law_mul" = true) (k20 : PySem.W.keepIn K (.ref fa20) = true)
    {fa21 : Addr} {od21 an21 : Option Addr} {sl21 : Array (Option Value)} {oc21 kV21 dc21 pm21 cd21 ct21 : Value}
    (a21 : PySem.W.nsIn K mainGlobals "_law_after" = some (some (.ref fa21))) (l21 : K.lookup fa21 = some ⟨oc21, od21, .func (PySem.W.fnOf "_law_after" "_law_after" (defArgs s__law_after) (defBody s__law_after) (defScope s__law_after) .none kV21 dc21 pm21 an21 cd21 ct21), sl21⟩) (c21 : PySem.W.codeIn K cd21 "_law_after" = true) (k21 : PySem.W.keepIn K (.ref fa21) = true)
    {fa22 : Addr} {od22 an22 : Option Addr} {sl22 : Array (Option Value)} {oc22 kV22 dc22 pm22 cd22 ct22 : Value}
    (a22 : PySem.W.nsIn K mainGlobals "_law_sub" = some (some (.ref fa22))) (l22 : K.lookup fa22 = some ⟨oc22, od22, .func (PySem.W.fnOf "_law_sub" "_law_sub" (defArgs s__law_sub) (defBody s__law_sub) (defScope s__law_sub) .none kV22 dc22 pm22 an22 cd22 ct22), sl22⟩) (c22 : PySem.W.codeIn K cd22 "_law_sub" = true) (k22 : PySem.W.keepIn K (.ref fa22) = true)
    {fa23 : Addr} {od23 an23 : Option Addr} {sl23 : Array (Option Value)} {oc23 kV23 dc23 pm23 cd23 ct23 : Value}
    (a23 : PySem.W.nsIn K mainGlobals "_law_over" = some (some (.ref fa23))) (l23 : K.lookup fa23 = some ⟨oc23, od23, .func (PySem.W.fnOf "_law_over" "_law_over" (defArgs s__law_over) (defBody s__law_over) (defScope s__law_over) .none kV23 dc23 pm23 an23 cd23 ct23), sl23⟩) (c23 : PySem.W.codeIn K cd23 "_law_over" = true) (k23 : PySem.W.keepIn K (.ref fa23) = true)
    {fa24 : Addr} {od24 an24 : Option Addr} {sl24 : Array (Option Value)} {oc24 kV24 dc24 pm24 cd24 ct24 : Value}
    (a24 : PySem.W.nsIn K mainGlobals "_law_through" = some (some (.ref fa24))) (l24 : K.lookup fa24 = some ⟨oc24, od24, .func (PySem.W.fnOf "_law_through" "_law_through" (defArgs s__law_through) (defBody s__law_through) (defScope s__law_through) .none kV24 dc24 pm24 an24 cd24 ct24), sl24⟩) (c24 : PySem.W.codeIn K cd24 "_law_through" = true) (k24 : PySem.W.keepIn K (.ref fa24) = true)
    {fa25 : Addr} {od25 an25 : Option Addr} {sl25 : Array (Option Value)} {oc25 kV25 dc25 pm25 cd25 ct25 : Value}
    (a25 : PySem.W.nsIn K mainGlobals "is_root" = some (some (.ref fa25))) (l25 : K.lookup fa25 = some ⟨oc25, od25, .func (PySem.W.fnOf "is_root" "is_root" (defArgs s_is_root) (defBody s_is_root) (defScope s_is_root) .none kV25 dc25 pm25 an25 cd25 ct25), sl25⟩) (c25 : PySem.W.codeIn K cd25 "is_root" = true) (k25 : PySem.W.keepIn K (.ref fa25) = true)
    {fa26 : Addr} {od26 an26 : Option Addr} {sl26 : Array (Option Value)} {oc26 kV26 dc26 pm26 cd26 ct26 : Value}
    (a26 : PySem.W.nsIn K mainGlobals "look_at_root" = some (some (.ref fa26))) (l26 : K.lookup fa26 = some ⟨oc26, od26, .func (PySem.W.fnOf "look_at_root" "look_at_root" (defArgs s_look_at_root) (defBody s_look_at_root) (defScope s_look_at_root) .none kV26 dc26 pm26 an26 cd26 ct26), sl26⟩) (c26 : PySem.W.codeIn K cd26 "look_at_root" = true) (k26 : PySem.W.keepIn K (.ref fa26) = true)
    {fa27 : Addr} {od27 an27 : Option Addr} {sl27 : Array (Option Value)} {oc27 kV27 dc27 pm27 cd27 ct27 : Value}
    (a27 : PySem.W.nsIn K mainGlobals "square_root" = some (some (.ref fa27))) (l27 : K.lookup fa27 = some ⟨oc27, od27, .func (PySem.W.fnOf "square_root" "square_root" (defArgs s_square_root) (defBody s_square_root) (defScope s_square_root) .none kV27 dc27 pm27 an27 cd27 ct27), sl27⟩) (c27 : PySem.W.codeIn K cd27 "square_root" = true) (k27 : PySem.W.keepIn K (.ref fa27) = true)
    {fa28 : Addr} {od28 an28 : Option Addr} {sl28 : Array (Option Value)} {oc28 kV28 dc28 pm28 cd28 ct28 : Value}
    (a28 : PySem.W.nsIn K mainGlobals "fraction_by" = some (some (.ref fa28))) (l28 : K.lookup fa28 = some ⟨oc28, od28, .func (PySem.W.fnOf "fraction_by" "fraction_by" (defArgs s_fraction_by) (defBody s_fraction_by) (defScope s_fraction_by) .none kV28 dc28 pm28 an28 cd28 ct28), sl28⟩) (c28 : PySem.W.codeIn K cd28 "fraction_by" = true) (k28 : PySem.W.keepIn K (.ref fa28) = true)
    {fa29 : Addr} {od29 an29 : Option Addr} {sl29 : Array (Option Value)} {oc29 kV29 dc29 pm29 cd29 ct29 : Value}
    (a29 : PySem.W.nsIn K mainGlobals "compare_by" = some (some (.ref fa29))) (l29 : K.lookup fa29 = some ⟨oc29, od29, .func (PySem.W.fnOf "compare_by" "compare_by" (defArgs s_compare_by) (defBody s_compare_by) (defScope s_compare_by) .none kV29 dc29 pm29 an29 cd29 ct29), sl29⟩) (c29 : PySem.W.codeIn K cd29 "compare_by" = true) (k29 : PySem.W.keepIn K (.ref fa29) = true)
    {fa30 : Addr} {od30 an30 : Option Addr} {sl30 : Array (Option Value)} {oc30 kV30 dc30 pm30 cd30 ct30 : Value}
    (a30 : PySem.W.nsIn K mainGlobals "order" = some (some (.ref fa30))) (l30 : K.lookup fa30 = some ⟨oc30, od30, .func (PySem.W.fnOf "order" "order" (defArgs s_order) (defBody s_order) (defScope s_order) .none kV30 dc30 pm30 an30 cd30 ct30), sl30⟩) (c30 : PySem.W.codeIn K cd30 "order" = true) (k30 : PySem.W.keepIn K (.ref fa30) = true)
    {fa31 : Addr} {od31 an31 : Option Addr} {sl31 : Array (Option Value)} {oc31 kV31 dc31 pm31 cd31 ct31 : Value}
    (a31 : PySem.W.nsIn K mainGlobals "is_number" = some (some (.ref fa31))) (l31 : K.lookup fa31 = some ⟨oc31, od31, .func (PySem.W.fnOf "is_number" "is_number" (defArgs s_is_number) (defBody s_is_number) (defScope s_is_number) .none kV31 dc31 pm31 an31 cd31 ct31), sl31⟩) (c31 : PySem.W.codeIn K cd31 "is_number" = true) (k31 : PySem.W.keepIn K (.ref fa31) = true)
    {fa32 : Addr} {od32 an32 : Option Addr} {sl32 : Array (Option Value)} {oc32 kV32 dc32 pm32 cd32 ct32 : Value}
    (a32 : PySem.W.nsIn K mainGlobals "over" = some (some (.ref fa32))) (l32 : K.lookup fa32 = some ⟨oc32, od32, .func (PySem.W.fnOf "over" "over" (defArgs s_over) (defBody s_over) (defScope s_over) .none kV32 dc32 pm32 an32 cd32 ct32), sl32⟩) (c32 : PySem.W.codeIn K cd32 "over" = true) (k32 : PySem.W.keepIn K (.ref fa32) = true)
    {fa33 : Addr} {od33 an33 : Option Addr} {sl33 : Array (Option Value)} {oc33 kV33 dc33 pm33 cd33 ct33 : Value}
    (a33 : PySem.W.nsIn K mainGlobals "ahead" = some (some (.ref fa33))) (l33 : K.lookup fa33 = some ⟨oc33, od33, .func (PySem.W.fnOf "ahead" "ahead" (defArgs s_ahead) (defBody s_ahead) (defScope s_ahead) .none kV33 dc33 pm33 an33 cd33 ct33), sl33⟩) (c33 : PySem.W.codeIn K cd33 "ahead" = true) (k33 : PySem.W.keepIn K (.ref fa33) = true)
    {fa34 : Addr} {od34 an34 : Option Addr} {sl34 : Array (Option Value)} {oc34 kV34 dc34 pm34 cd34 ct34 : Value}
    (a34 : PySem.W.nsIn K mainGlobals "ahead_of_all" = some (some (.ref fa34))) (l34 : K.lookup fa34 = some ⟨oc34, od34, .func (PySem.W.fnOf "ahead_of_all" "ahead_of_all" (defArgs s_ahead_of_all) (defBody s_ahead_of_all) (defScope s_ahead_of_all) .none kV34 dc34 pm34 an34 cd34 ct34), sl34⟩) (c34 : PySem.W.codeIn K cd34 "ahead_of_all" = true) (k34 : PySem.W.keepIn K (.ref fa34) = true)
    {fa35 : Addr} {od35 an35 : Option Addr} {sl35 : Array (Option Value)} {oc35 kV35 dc35 pm35 cd35 ct35 : Value}
    (a35 : PySem.W.nsIn K mainGlobals "less" = some (some (.ref fa35))) (l35 : K.lookup fa35 = some ⟨oc35, od35, .func (PySem.W.fnOf "less" "less" (defArgs s_less) (defBody s_less) (defScope s_less) .none kV35 dc35 pm35 an35 cd35 ct35), sl35⟩) (c35 : PySem.W.codeIn K cd35 "less" = true) (k35 : PySem.W.keepIn K (.ref fa35) = true)
    {fa36 : Addr} {od36 an36 : Option Addr} {sl36 : Array (Option Value)} {oc36 kV36 dc36 pm36 cd36 ct36 : Value}
    (a36 : PySem.W.nsIn K mainGlobals "parts_enough" = some (some (.ref fa36))) (l36 : K.lookup fa36 = some ⟨oc36, od36, .func (PySem.W.fnOf "parts_enough" "parts_enough" (defArgs s_parts_enough) (defBody s_parts_enough) (defScope s_parts_enough) .none kV36 dc36 pm36 an36 cd36 ct36), sl36⟩) (c36 : PySem.W.codeIn K cd36 "parts_enough" = true) (k36 : PySem.W.keepIn K (.ref fa36) = true)
    {fa37 : Addr} {od37 an37 : Option Addr} {sl37 : Array (Option Value)} {oc37 kV37 dc37 pm37 cd37 ct37 : Value}
    (a37 : PySem.W.nsIn K mainGlobals "_law_told" = some (some (.ref fa37))) (l37 : K.lookup fa37 = some ⟨oc37, od37, .func (PySem.W.fnOf "_law_told" "_law_told" (defArgs s__law_told) (defBody s__law_told) (defScope s__law_told) .none kV37 dc37 pm37 an37 cd37 ct37), sl37⟩) (c37 : PySem.W.codeIn K cd37 "_law_told" = true) (k37 : PySem.W.keepIn K (.ref fa37) = true)
    {fa38 : Addr} {od38 an38 : Option Addr} {sl38 : Array (Option Value)} {oc38 kV38 dc38 pm38 cd38 ct38 : Value}
    (a38 : PySem.W.nsIn K mainGlobals "compare" = some (some (.ref fa38))) (l38 : K.lookup fa38 = some ⟨oc38, od38, .func (PySem.W.fnOf "compare" "compare" (defArgs s_compare) (defBody s_compare) (defScope s_compare) .none kV38 dc38 pm38 an38 cd38 ct38), sl38⟩) (c38 : PySem.W.codeIn K cd38 "compare" = true) (k38 : PySem.W.keepIn K (.ref fa38) = true)
    {fa39 : Addr} {od39 an39 : Option Addr} {sl39 : Array (Option Value)} {oc39 kV39 dc39 pm39 cd39 ct39 : Value}
    (a39 : PySem.W.nsIn K mainGlobals "turned" = some (some (.ref fa39))) (l39 : K.lookup fa39 = some ⟨oc39, od39, .func (PySem.W.fnOf "turned" "turned" (defArgs s_turned) (defBody s_turned) (defScope s_turned) .none kV39 dc39 pm39 an39 cd39 ct39), sl39⟩) (c39 : PySem.W.codeIn K cd39 "turned" = true) (k39 : PySem.W.keepIn K (.ref fa39) = true)
    {fa40 : Addr} {od40 an40 : Option Addr} {sl40 : Array (Option Value)} {oc40 kV40 dc40 pm40 cd40 ct40 : Value}
    (a40 : PySem.W.nsIn K mainGlobals "_law_case" = some (some (.ref fa40))) (l40 : K.lookup fa40 = some ⟨oc40, od40, .func (PySem.W.fnOf "_law_case" "_law_case" (defArgs s__law_case) (defBody s__law_case) (defScope s__law_case) .none kV40 dc40 pm40 an40 cd40 ct40), sl40⟩) (c40 : PySem.W.codeIn K cd40 "_law_case" = true) (k40 : PySem.W.keepIn K (.ref fa40) = true)
    {fa41 : Addr} {od41 an41 : Option Addr} {sl41 : Array (Option Value)} {oc41 kV41 dc41 pm41 cd41 ct41 : Value}
    (a41 : PySem.W.nsIn K mainGlobals "_law_bag" = some (some (.ref fa41))) (l41 : K.lookup fa41 = some ⟨oc41, od41, .func (PySem.W.fnOf "_law_bag" "_law_bag" (defArgs s__law_bag) (defBody s__law_bag) (defScope s__law_bag) .none kV41 dc41 pm41 an41 cd41 ct41), sl41⟩) (c41 : PySem.W.codeIn K cd41 "_law_bag" = true) (k41 : PySem.W.keepIn K (.ref fa41) = true)
    {fa42 : Addr} {od42 an42 : Option Addr} {sl42 : Array (Option Value)} {oc42 kV42 dc42 pm42 cd42 ct42 : Value}
    (a42 : PySem.W.nsIn K mainGlobals "law" = some (some (.ref fa42))) (l42 : K.lookup fa42 = some ⟨oc42, od42, .func (PySem.W.fnOf "law" "law" (defArgs s_law) (defBody s_law) (defScope s_law) .none kV42 dc42 pm42 an42 cd42 ct42), sl42⟩) (c42 : PySem.W.codeIn K cd42 "law" = true) (k42 : PySem.W.keepIn K (.ref fa42) = true)
    {C0 : Addr} (ca0 : PySem.W.nsIn K mainGlobals "BadValue" = some (some (.ref C0))) (cx0 : PySem.W.excIn K C0 veL "ValueError.__new__" = true) (ck0 : PySem.W.keepIn K (.ref C0) = true) (cs0 : PySem.W.subIn K (.ref C0) (.type "BaseException") = some true) (ct1000 : PySem.W.typeIn K (.ref C0) = some (.type "type"))
    (ci0 : PySem.W.isClsIn K C0 = true)
    {C1 : Addr} (ca1 : PySem.W.nsIn K mainGlobals "NoSuch" = some (some (.ref C1))) (cx1 : PySem.W.excIn K C1 veL "ValueError.__new__" = true) (ck1 : PySem.W.keepIn K (.ref C1) = true) (cs1 : PySem.W.subIn K (.ref C1) (.type "BaseException") = some true) (ct1001 : PySem.W.typeIn K (.ref C1) = some (.type "type"))
    (ci1 : PySem.W.isClsIn K C1 = true)
    {C2 : Addr} (ca2 : PySem.W.nsIn K mainGlobals "TooFar" = some (some (.ref C2))) (cx2 : PySem.W.excIn K C2 veL "ValueError.__new__" = true) (ck2 : PySem.W.keepIn K (.ref C2) = true) (cs2 : PySem.W.subIn K (.ref C2) (.type "BaseException") = some true) (ct1002 : PySem.W.typeIn K (.ref C2) = some (.type "type"))
    (ci2 : PySem.W.isClsIn K C2 = true)
    (e0_0 : PySem.W.subIn K (.ref C0) (.ref C0) = some true)
    (e0_1 : PySem.W.subIn K (.ref C0) (.ref C1) = some false)
    (e0_2 : PySem.W.subIn K (.ref C0) (.ref C2) = some false)
    (e1_0 : PySem.W.subIn K (.ref C1) (.ref C0) = some false)
    (e1_1 : PySem.W.subIn K (.ref C1) (.ref C1) = some true)
    (e1_2 : PySem.W.subIn K (.ref C1) (.ref C2) = some false)
    (e2_0 : PySem.W.subIn K (.ref C2) (.ref C0) = some false)
    (e2_1 : PySem.W.subIn K (.ref C2) (.ref C1) = some false)
    (e2_2 : PySem.W.subIn K (.ref C2) (.ref C2) = some true)
    {t0 : Tok} (ga0 : PySem.W.nsIn K mainGlobals "BEYOND" = some (some (.int 100000000000000000000 t0)))
    {t1 : Tok} (ga1 : PySem.W.nsIn K mainGlobals "MOST_PARTS" = some (some (.int 12 t1)))
    {t2 : Tok} (ga2 : PySem.W.nsIn K mainGlobals "MOST_TIMES" = some (some (.int 40 t2)))
    {z3 : Addr} {t3_0 t3_1 : Tok} {zd3 : Option Addr} {zn3 : Nat} {zs3 : Array (Option Value)} (ga3 : PySem.W.nsIn K mainGlobals "ONE" = some (some (.ref z3))) (gb3 : K.lookup z3 = some ⟨.type "tuple", zd3, .seq #[.int 1 t3_0, .int 1 t3_1] zn3, zs3⟩)
    {z4 : Addr} {t4_0 t4_1 : Tok} {zd4 : Option Addr} {zn4 : Nat} {zs4 : Array (Option Value)} (ga4 : PySem.W.nsIn K mainGlobals "ZERO" = some (some (.ref z4))) (gb4 : K.lookup z4 = some ⟨.type "tuple", zd4, .seq #[.int 0 t4_0, .int 1 t4_1] zn4, zs4⟩)
    (z5000 : PySem.W.nsIn K mainGlobals "abs" = some none)
    (z5001 : PySem.W.nsIn K mainGlobals "all" = some none)
    (z5002 : PySem.W.nsIn K mainGlobals "bool" = some none)
    (z5003 : PySem.W.nsIn K mainGlobals "int" = some none)
    (z5004 : PySem.W.nsIn K mainGlobals "isinstance" = some none)
    (z5005 : PySem.W.nsIn K mainGlobals "len" = some none)
    (z5006 : PySem.W.nsIn K mainGlobals "max" = some none)
    (z5007 : PySem.W.nsIn K mainGlobals "min" = some none)
    (z5008 : PySem.W.nsIn K mainGlobals "range" = some none)
    (z5009 : PySem.W.nsIn K mainGlobals "str" = some none)
    (z5010 : PySem.W.nsIn K mainGlobals "tuple" = some none)
    : ∃ fd : FuncData, (∀ (s : Shared) (v : Value), BindsTo s fd ⟨[v], []⟩ [("script", v)]) ∧ ∀ base : Heap, K.In base → base.Ns mainGlobals mg → FnOk l.prog w K mg base (L2.CX l.prog w) 10 fa fd ["script"] (spAny K) := by
  have e := hfa.symm.trans (PySem.W.mg_of X Gn a42)
  cases e
  have T := top_mk X Gn a0 l0 c0 k0 a1 l1 c1 k1 a2 l2 c2 k2 a3 l3 c3 k3 a4 l4 c4 k4 a5 l5 c5 k5 a6 l6 c6 k6 a7 l7 c7 k7 a8 l8 c8 k8 a9 l9 c9 k9 a10 l10 c10 k10 a11 l11 c11 k11 a12 l12 c12 k12 a13 l13 c13 k13 a14 l14 c14 k14 a15 l15 c15 k15 a16 l16 c16 k16 a17 l17 c17 k17 a18 l18 c18 k18 a19 l19 c19 k19 a20 l20 c20 k20 a21 l21 c21 k21 a22 l22 c22 k22 a23 l23 c23 k23 a24 l24 c24 k24 a25 l25 c25 k25 a26 l26 c26 k26 a27 l27 c27 k27 a28 l28 c28 k28 a29 l29 c29 k29 a30 l30 c30 k30 a31 l31 c31 k31 a32 l32 c32 k32 a33 l33 c33 k33 a34 l34 c34 k34 a35 l35 c35 k35 a36 l36 c36 k36 a37 l37 c37 k37 a38 l38 c38 k38 a39 l39 c39 k39 a40 l40 c40 k40 a41 l41 c41 k41 a42 l42 c42 k42 ca0 cx0 ck0 cs0 ct1000 ci0 ca1 cx1 ck1 cs1 ct1001 ci1 ca2 cx2 ck2 cs2 ct1002 ci2 e0_0 e0_1 e0_2 e1_0 e1_1 e1_2 e2_0 e2_1 e2_2 ga0 ga1 ga2 ga3 gb3 ga4 gb4 z5000 z5001 z5002 z5003 z5004 z5005 z5006 z5007 z5008 z5009 z5010
  refine ⟨_, fun s v => ?_, fun base _ _ => (fn_law (G := ⟨fun x => [("common", fa0), ("is_any_fraction", fa1), ("is_fraction", fa2), ("sign", fa3), ("is_part", fa4), ("look_at_ladder", fa5), ("greatest_divisor", fa6), ("fraction", fa7), ("minus", fa8), ("plus", fa9), ("times", fa10), ("product", fa11), ("endless_by", fa12), ("endless", fa13), ("_law_draw", fa14), ("_law_ladder", fa15), ("_law_whole", fa16), ("_law_fr", fa17), ("_law_add", fa18), ("_law_div", fa19), ("_law_mul", fa20), ("_law_after", fa21), ("_law_sub", fa22), ("_law_over", fa23), ("_law_through", fa24), ("is_root", fa25), ("look_at_root", fa26), ("square_root", fa27), ("fraction_by", fa28), ("compare_by", fa29), ("order", fa30), ("is_number", fa31), ("over", fa32), ("ahead", fa33), ("ahead_of_all", fa34), ("less", fa35), ("parts_enough", fa36), ("_law_told", fa37), ("compare", fa38), ("turned", fa39), ("_law_case", fa40), ("_law_bag", fa41), ("law", fa)].lookup x, fun x => [("BadValue", C0), ("NoSuch", C1), ("TooFar", C2)].lookup x, fun x => ([("BEYOND", (.int 100000000000000000000 : V)), ("MOST_PARTS", (.int 12 : V)), ("MOST_TIMES", (.int 40 : V)), ("ONE", (.ref z3 : V)), ("ZERO", (.ref z4 : V))].lookup x).getD .non, K⟩) T (fun_mk l42 c42 k42)).imp (law_sp hr)⟩
  exact .of_eq rfl
end K71
open PySem PySem.W PyProof.Rows
set_option maxHeartbeats 0 in
theorem PySem.Challenge.cw_currentwebs_k71_whole_endless_rows_holds : PySem.Challenge.rw_currentwebs_k71_whole_endless_rows.Holds := by
  w_on; o_law; k_head; (case hw => w_witness2)
  k_fill
  refine L2.walk_of (l := PySem.Challenge.rw_currentwebs_k71_whole_endless_rows) (n := 63) (k := 10) (x := "script") (CX := fun w => L2.CX (PySem.Challenge.rw_currentwebs_k71_whole_endless_rows).prog w) (sp := fun w => DL.spAny _) rfl (by decide) rfl ⟨rfl, by decide, by decide⟩ (fun w h Y => PySem.W.kIn_of Y) ?F (fun _ H a ns hl ho hS => ⟨a, ns, rfl, hS, ho, hl, fun _ => rfl⟩) (fun _ H s e s2 z => DL.cx_none H s e s2 z)
  case F =>
    intro w mg fa h KX G hmg
    refine' K71.law_mk KX G hmg K71.main ?a0 ?l0 ?c0 ?k0 ?a1 ?l1 ?c1 ?k1 ?a2 ?l2 ?c2 ?k2 ?a3 ?l3 ?c3 ?k3 ?a4 ?l4 ?c4 ?k4 ?a5 ?l5 ?c5 ?k5 ?a6 ?l6 ?c6 ?k6 ?a7 ?l7 ?c7 ?k7 ?a8 ?l8 ?c8 ?k8 ?a9 ?l9 ?c9 ?k9 ?a10 ?l10 ?c10 ?k10 ?a11 ?l11 ?c11 ?k11 ?a12 ?l12 ?c12 ?k12 ?a13 ?l13 ?c13 ?k13 ?a14 ?l14 ?c14 ?k14 ?a15 ?l15 ?c15 ?k15 ?a16 ?l16 ?c16 ?k16 ?a17 ?l17 ?c17 ?k17 ?a18 ?l18 ?c18 ?k18 ?a19 ?l19 ?c19 ?k19 ?a20 ?l20 ?c20 ?k20 ?a21 ?l21 ?c21 ?k21 ?a22 ?l22 ?c22 ?k22 ?a23 ?l23 ?c23 ?k23 ?a24 ?l24 ?c24 ?k24 ?a25 ?l25 ?c25 ?k25 ?a26 ?l26 ?c26 ?k26 ?a27 ?l27 ?c27 ?k27 ?a28 ?l28 ?c28 ?k28 ?a29 ?l29 ?c29 ?k29 ?a30 ?l30 ?c30 ?k30 ?a31 ?l31 ?c31 ?k31 ?a32 ?l32 ?c32 ?k32 ?a33 ?l33 ?c33 ?k33 ?a34 ?l34 ?c34 ?k34 ?a35 ?l35 ?c35 ?k35 ?a36 ?l36 ?c36 ?k36 ?a37 ?l37 ?c37 ?k37 ?a38 ?l38 ?c38 ?k38 ?a39 ?l39 ?c39 ?k39 ?a40 ?l40 ?c40 ?k40 ?a41 ?l41 ?c41 ?k41 ?a42 ?l42 ?c42 ?k42 ?ca0 ?cx0 ?ck0 ?cs0 ?ct1000 ?ci0 ?ca1 ?cx1 ?ck1 ?cs1 ?ct1001 ?ci1 ?ca2 ?cx2 ?ck2 ?cs2 ?ct1002 ?ci2 ?e0_0 ?e0_1 ?e0_2 ?e1_0 ?e1_1 ?e1_2 ?e2_0 ?e2_1 ?e2_2 ?ga0 ?ga1 ?ga2 ?ga3 ?gb3 ?ga4 ?gb4 ?z5000 ?z5001 ?z5002 ?z5003 ?z5004 ?z5005 ?z5006 ?z5007 ?z5008 ?z5009 ?z5010
    (case a0 => k_is)
    (case l0 => k_is)
    (case c0 => k_is)
    (case k0 => k_is)
    (case a1 => k_is)
    (case l1 => k_is)
    (case c1 => k_is)
    (case k1 => k_is)
    (case a2 => k_is)
    (case l2 => k_is)
    (case c2 => k_is)
    (case k2 => k_is)
    (case a3 => k_is)
    (case l3 => k_is)
    (case c3 => k_is)
    (case k3 => k_is)
    (case a4 => k_is)
    (case l4 => k_is)
    (case c4 => k_is)
    (case k4 => k_is)
    (case a5 => k_is)
    (case l5 => k_is)
    (case c5 => k_is)
    (case k5 => k_is)
    (case a6 => k_is)
    (case l6 => k_is)
    (case c6 => k_is)
    (case k6 => k_is)
    (case a7 => k_is)
    (case l7 => k_is)
    (case c7 => k_is)
    (case k7 => k_is)
    (case a8 => k_is)
    (case l8 => k_is)
    (case c8 => k_is)
    (case k8 => k_is)
    (case a9 => k_is)
    (case l9 => k_is)
    (case c9 => k_is)
    (case k9 => k_is)
    (case a10 => k_is)
    (case l10 => k_is)
    (case c10 => k_is)
    (case k10 => k_is)
    (case a11 => k_is)
    (case l11 => k_is)
    (case c11 => k_is)
    (case k11 => k_is)
    (case a12 => k_is)
    (case l12 => k_is)
    (case c12 => k_is)
    (case k12 => k_is)
    (case a13 => k_is)
    (case l13 => k_is)
    (case c13 => k_is)
    (case k13 => k_is)
    (case a14 => k_is)
    (case l14 => k_is)
    (case c14 => k_is)
    (case k14 => k_is)
    (case a15 => k_is)
    (case l15 => k_is)
    (case c15 => k_is)
    (case k15 => k_is)
    (case a16 => k_is)
    (case l16 => k_is)
    (case c16 => k_is)
    (case k16 => k_is)
    (case a17 => k_is)
    (case l17 => k_is)
    (case c17 => k_is)
    (case k17 => k_is)
    (case a18 => k_is)
    (case l18 => k_is)
    (case c18 => k_is)
    (case k18 => k_is)
    (case a19 => k_is)
    (case l19 => k_is)
    (case c19 => k_is)
    (case k19 => k_is)
    (case a20 => k_is)
    (case l20 => k_is)
    (case c20 => k_is)
    (case k20 => k_is)
    (case a21 => k_is)
    (case l21 => k_is)
    (case c21 => k_is)
    (case k21 => k_is)
    (case a22 => k_is)
    (case l22 => k_is)
    (case c22 => k_is)
    (case k22 => k_is)
    (case a23 => k_is)
    (case l23 => k_is)
    (case c23 => k_is)
    (case k23 => k_is)
    (case a24 => k_is)
    (case l24 => k_is)
    (case c24 => k_is)
    (case k24 => k_is)
    (case a25 => k_is)
    (case l25 => k_is)
    (case c25 => k_is)
    (case k25 => k_is)
    (case a26 => k_is)
    (case l26 => k_is)
    (case c26 => k_is)
    (case k26 => k_is)
    (case a27 => k_is)
    (case l27 => k_is)
    (case c27 => k_is)
    (case k27 => k_is)
    (case a28 => k_is)
    (case l28 => k_is)
    (case c28 => k_is)
    (case k28 => k_is)
    (case a29 => k_is)
    (case l29 => k_is)
    (case c29 => k_is)
    (case k29 => k_is)
    (case a30 => k_is)
    (case l30 => k_is)
    (case c30 => k_is)
    (case k30 => k_is)
    (case a31 => k_is)
    (case l31 => k_is)
    (case c31 => k_is)
    (case k31 => k_is)
    (case a32 => k_is)
    (case l32 => k_is)
    (case c32 => k_is)
    (case k32 => k_is)
    (case a33 => k_is)
    (case l33 => k_is)
    (case c33 => k_is)
    (case k33 => k_is)
    (case a34 => k_is)
    (case l34 => k_is)
    (case c34 => k_is)
    (case k34 => k_is)
    (case a35 => k_is)
    (case l35 => k_is)
    (case c35 => k_is)
    (case k35 => k_is)
    (case a36 => k_is)
    (case l36 => k_is)
    (case c36 => k_is)
    (case k36 => k_is)
    (case a37 => k_is)
    (case l37 => k_is)
    (case c37 => k_is)
    (case k37 => k_is)
    (case a38 => k_is)
    (case l38 => k_is)
    (case c38 => k_is)
    (case k38 => k_is)
    (case a39 => k_is)
    (case l39 => k_is)
    (case c39 => k_is)
    (case k39 => k_is)
    (case a40 => k_is)
    (case l40 => k_is)
    (case c40 => k_is)
    (case k40 => k_is)
    (case a41 => k_is)
    (case l41 => k_is)
    (case c41 => k_is)
    (case k41 => k_is)
    (case a42 => k_is)
    (case l42 => k_is)
    (case c42 => k_is)
    (case k42 => k_is)
    (case ca0 => k_is)
    (case cx0 => k_exc)
    (case ck0 => k_is)
    (case cs0 => k_is)
    (case ct1000 => k_is)
    (case ci0 => k_is)
    (case ca1 => k_is)
    (case cx1 => k_exc)
    (case ck1 => k_is)
    (case cs1 => k_is)
    (case ct1001 => k_is)
    (case ci1 => k_is)
    (case ca2 => k_is)
    (case cx2 => k_exc)
    (case ck2 => k_is)
    (case cs2 => k_is)
    (case ct1002 => k_is)
    (case ci2 => k_is)
    (case e0_0 => k_is)
    (case e0_1 => k_is)
    (case e0_2 => k_is)
    (case e1_0 => k_is)
    (case e1_1 => k_is)
    (case e1_2 => k_is)
    (case e2_0 => k_is)
    (case e2_1 => k_is)
    (case e2_2 => k_is)
    (case ga0 => k_is)
    (case ga1 => k_is)
    (case ga2 => k_is)
    (case ga3 => k_is)
    (case gb3 => k_is)
    (case ga4 => k_is)
    (case gb4 => k_is)
    (case z5000 => k_is)
    (case z5001 => k_is)
    (case z5002 => k_is)
    (case z5003 => k_is)
    (case z5004 => k_is)
    (case z5005 => k_is)
    (case z5006 => k_is)
    (case z5007 => k_is)
    (case z5008 => k_is)
    (case z5009 => k_is)
    (case z5010 => k_is)


