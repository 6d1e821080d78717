import PyProof.Rows.All
import Wide.All
import OpenK.AllK
import Wide.FinOn
import HandS.ForMost
import HandS.ForExc
import HandS.Walk
import HandS.IsInst
import HandS.Property
import HandS.CallSlots
import HandS.Defaults
import HandS.Zip
import HandS.Flow
import HandS.Wide
import HandS.TupAny
import HandS.MakeKw
import HandS.Text
import HandS.SortInts
import HandS.Deep
import HandS.Rev
import HandS.EndBits
import KE.GoesEnum
import HandS.Star
import HandS.Replace
import HandS.More
import PyProof.Rows.Range3
import PyProof.Conv_bool
import PySem.Challenge.RW_wordworth_k02_ratio_order_and_texts
set_option Elab.async false
set_option linter.all false
set_option maxRecDepth 100000
set_option maxHeartbeats 1000000

/-! Py1: values, stores, what stands for what. -/
namespace Py
open PySem PySem.Spec PyProof.Rows L2

/-- plain data: it never changes -/
inductive D where
  | non | bl (b : Bool) | int (i : Int) | str (x : Str)
  | tup (xs : List D) | lst (xs : List D) | lsx (xs : List D)
  | obj (c : Nat) (xs : List D)
  | dK (kvs : List (Key × D)) | dT (kvs : List (List Key × D))
/-- a value of a slot: data, or a cell of the store -/
inductive W where
  | d (x : D) | c (i : Nat)
/-- what a cell holds -/
inductive Ce where
  | dead
  | lst (ws : List W)
  | ins (c : Nat) (ws : List W)
  | dK (kvs : List (Key × W)) | dT (kvs : List (List Key × W))
abbrev Sto := List Ce
abbrev Env := List (Option W)
/-- how an expression ends -/
inductive R (α : Type) where
  | ok (a : α) (S : Sto)
  | exc (c : Nat) (x : D) (S : Sto)
  | bad
/-- how a statement ends -/
inductive RS where
  | nx (e : Env) (S : Sto)
  | rt (w : W) (S : Sto)
  | bk (e : Env) (S : Sto)
  | ct (e : Env) (S : Sto)
  | exc (c : Nat) (x : D) (e : Env) (S : Sto)
  | bad
@[simp] def R.bind {α β : Type} (r : R α) (f : α → Sto → R β) : R β := match r with
  | .ok a S => f a S
  | .exc c x S => .exc c x S
  | .bad => .bad
abbrev DE := Env → Sto → R W
abbrev DT := Env → Sto → R Bool
abbrev DA := Env → Sto → R (List W)
abbrev DS := Env → Sto → RS
abbrev FnTab := Nat → List W → Sto → R W

/-- the written part, the classes' addresses, their fields -/
structure Inf where
  K : PySem.W.Frag
  G : Nat → Option Addr
  fl : Nat → List Str

mutual
inductive Rep (I : Inf) (H : Hp) : D → V → Prop
  | non : Rep I H .non .non
  | bl (b : Bool) : Rep I H (.bl b) (.bl b)
  | int (i : Int) : Rep I H (.int i) (.int i)
  | str (x : Str) : Rep I H (.str x) (.str x)
  | tup {a : Addr} {xs : List D} {vs : List V} (h : SqT I.K H a vs) (r : Reps I H xs vs) : Rep I H (.tup xs) (.ref a)
  | lst {a : Addr} {xs : List D} {vs : List V} (h : H a = some (.lst vs)) (r : Reps I H xs vs) : Rep I H (.lst xs) (.ref a)
  | lsx {a : Addr} {xs : List D} {vs : List V} (h : SqL I.K H a vs) (r : Reps I H xs vs) : Rep I H (.lsx xs) (.ref a)
  | obj {a C dx : Addr} {c : Nat} {xs : List D} {vs : List V} (g : I.G c = some C) (h : H a = some (.ins C dx ((I.fl c).zip vs))) (l : vs.length = (I.fl c).length) (r : Reps I H xs vs) : Rep I H (.obj c xs) (.ref a)
  | dK {a : Addr} {kvs : List (Key × D)} {us : List (Key × V)} (h : H a = some (.dK us)) (r : RepK I H kvs us) : Rep I H (.dK kvs) (.ref a)
  | dT {a : Addr} {kvs : List (List Key × D)} {us : List (List Key × V)} (h : H a = some (.dT us)) (r : RepT I H kvs us) : Rep I H (.dT kvs) (.ref a)
inductive Reps (I : Inf) (H : Hp) : List D → List V → Prop
  | nil : Reps I H [] []
  | cons {x : D} {v : V} {xs : List D} {vs : List V} (r : Rep I H x v) (t : Reps I H xs vs) : Reps I H (x :: xs) (v :: vs)
inductive RepK (I : Inf) (H : Hp) : List (Key × D) → List (Key × V) → Prop
  | nil : RepK I H [] []
  | cons {k : Key} {x : D} {v : V} {xs : List (Key × D)} {vs : List (Key × V)} (r : Rep I H x v) (t : RepK I H xs vs) : RepK I H ((k, x) :: xs) ((k, v) :: vs)
inductive RepT (I : Inf) (H : Hp) : List (List Key × D) → List (List Key × V) → Prop
  | nil : RepT I H [] []
  | cons {k : List Key} {x : D} {v : V} {xs : List (List Key × D)} {vs : List (List Key × V)} (r : Rep I H x v) (t : RepT I H xs vs) : RepT I H ((k, x) :: xs) ((k, v) :: vs)
end

/-- all of H is in H' -/
def Ex (H H' : Hp) : Prop := ∀ a o, H a = some o → H' a = some o
theorem Ex.refl (H : Hp) : Ex H H := fun _ _ h => h
theorem Ex.trans {H H1 H2 : Hp} (a : Ex H H1) (b : Ex H1 H2) : Ex H H2 := fun x o h => b x o (a x o h)
theorem ex_rd {H H' : Hp} {a : Addr} {u : HO} (e : Ex H H') (h : Rd H a u) : Rd H' a u := by
  rcases h with h | ⟨o, h⟩
  · exact Or.inl (e a _ h)
  · exact Or.inr ⟨o, e a _ h⟩
theorem ex_l {K : PySem.W.Frag} {H H' : Hp} {a : Addr} {xs : List V} (e : Ex H H') (h : SqL K H a xs) : SqL K H' a xs := by
  rcases h with h | h
  · exact Or.inl (ex_rd e h)
  · exact Or.inr h
theorem ex_t {K : PySem.W.Frag} {H H' : Hp} {a : Addr} {xs : List V} (e : Ex H H') (h : SqT K H a xs) : SqT K H' a xs := by
  rcases h with h | h
  · exact Or.inl (ex_rd e h)
  · exact Or.inr h
mutual
theorem Rep.mono {I : Inf} {H H' : Hp} (e : Ex H H') : ∀ {d : D} {v : V}, Rep I H d v → Rep I H' d v
  | _, _, .non => .non
  | _, _, .bl b => .bl b
  | _, _, .int i => .int i
  | _, _, .str x => .str x
  | _, _, .tup h r => .tup (ex_t e h) (Reps.mono e r)
  | _, _, .lst h r => .lst (e _ _ h) (Reps.mono e r)
  | _, _, .lsx h r => .lsx (ex_l e h) (Reps.mono e r)
  | _, _, .obj g h l r => .obj g (e _ _ h) l (Reps.mono e r)
  | _, _, .dK h r => .dK (e _ _ h) (RepK.mono e r)
  | _, _, .dT h r => .dT (e _ _ h) (RepT.mono e r)
theorem Reps.mono {I : Inf} {H H' : Hp} (e : Ex H H') : ∀ {d : List D} {v : List V}, Reps I H d v → Reps I H' d v
  | _, _, .nil => .nil
  | _, _, .cons r t => .cons (Rep.mono e r) (Reps.mono e t)
theorem RepK.mono {I : Inf} {H H' : Hp} (e : Ex H H') : ∀ {d : List (Key × D)} {v : List (Key × V)}, RepK I H d v → RepK I H' d v
  | _, _, .nil => .nil
  | _, _, .cons r t => .cons (Rep.mono e r) (RepK.mono e t)
theorem RepT.mono {I : Inf} {H H' : Hp} (e : Ex H H') : ∀ {d : List (List Key × D)} {v : List (List Key × V)}, RepT I H d v → RepT I H' d v
  | _, _, .nil => .nil
  | _, _, .cons r t => .cons (Rep.mono e r) (RepT.mono e t)
end
theorem Reps.len {I : Inf} {H : Hp} : ∀ {d : List D} {v : List V}, Reps I H d v → d.length = v.length
  | _, _, .nil => rfl
  | _, _, .cons _ t => congrArg (· + 1) (Reps.len t)
theorem Reps.get {I : Inf} {H : Hp} : ∀ {d : List D} {v : List V} {i : Nat} {x : D}, Reps I H d v → d[i]? = some x → ∃ u, v[i]? = some u ∧ Rep I H x u
  | _, _, _, _, .nil, e => by simp at e
  | _, _, 0, _, .cons r _, e => by simp at e; subst e; exact ⟨_, rfl, r⟩
  | _, _, i + 1, x, .cons _ t, e => by
    obtain ⟨u, h1, h2⟩ := Reps.get (i := i) (x := x) t (by simpa using e)
    exact ⟨u, by simpa using h1, h2⟩
theorem Reps.getV {I : Inf} {H : Hp} : ∀ {d : List D} {v : List V} {i : Nat} {u : V}, Reps I H d v → v[i]? = some u → ∃ x, d[i]? = some x ∧ Rep I H x u
  | _, _, _, _, .nil, e => by simp at e
  | _, _, 0, _, .cons r _, e => by simp at e; subst e; exact ⟨_, rfl, r⟩
  | _, _, i + 1, x, .cons _ t, e => by
    obtain ⟨u, h1, h2⟩ := Reps.getV (i := i) (u := x) t (by simpa using e)
    exact ⟨u, by simpa using h1, h2⟩
theorem Reps.append {I : Inf} {H : Hp} : ∀ {d e : List D} {v u : List V}, Reps I H d v → Reps I H e u → Reps I H (d ++ e) (v ++ u)
  | _, _, _, _, .nil, s => s
  | _, _, _, _, .cons r t, s => .cons r (Reps.append t s)
theorem Reps.take {I : Inf} {H : Hp} : ∀ {d : List D} {v : List V} (n : Nat), Reps I H d v → Reps I H (d.take n) (v.take n)
  | _, _, 0, _ => .nil
  | _, _, _ + 1, .nil => .nil
  | _, _, n + 1, .cons r t => .cons r (Reps.take n t)
theorem Reps.drop {I : Inf} {H : Hp} : ∀ {d : List D} {v : List V} (n : Nat), Reps I H d v → Reps I H (d.drop n) (v.drop n)
  | _, _, 0, r => r
  | _, _, _ + 1, .nil => .nil
  | _, _, n + 1, .cons _ t => Reps.drop n t
theorem Reps.reverse {I : Inf} {H : Hp} {d : List D} {v : List V} (r : Reps I H d v) : Reps I H d.reverse v.reverse := by
  induction d generalizing v with
  | nil => cases r; exact .nil
  | cons x xs ih =>
    cases r with
    | cons r t =>
      rw [List.reverse_cons, List.reverse_cons]
      exact (ih t).append (.cons r .nil)
theorem Reps.rep {I : Inf} {H : Hp} {d : List D} {v : List V} (r : Reps I H d v) : ∀ k : Nat, Reps I H (List.replicate k d).flatten (List.replicate k v).flatten
  | 0 => .nil
  | k + 1 => by
    rw [List.replicate_succ, List.replicate_succ, List.flatten_cons, List.flatten_cons]
    exact r.append (Reps.rep r k)

/-! ### the store -/
open Classical in
/-- the addresses of living cells are hidden -/
noncomputable def mask (S : Sto) (M : List Addr) (H : Hp) : Hp := fun a => if ∃ (i : Nat) (o : Ce), M[i]? = some a ∧ S[i]? = some o ∧ o ≠ Ce.dead then none else H a
theorem mask_some {S : Sto} {M : List Addr} {H : Hp} {a : Addr} {o : HO} : mask S M H a = some o ↔ (¬ ∃ (i : Nat) (c : Ce), M[i]? = some a ∧ S[i]? = some c ∧ c ≠ Ce.dead) ∧ H a = some o := by
  unfold mask
  split
  · rename_i h
    exact ⟨fun e => by (cases e), fun e => absurd h e.1⟩
  · rename_i h
    exact ⟨fun e => ⟨h, e⟩, fun e => e.2⟩
theorem mask_ex {S : Sto} {M : List Addr} {H : Hp} : Ex (mask S M H) H := fun a o h => (mask_some.mp h).2
def RepW (I : Inf) (M : List Addr) (H : Hp) : W → V → Prop
  | .d x, v => Rep I H x v
  | .c i, v => ∃ a, M[i]? = some a ∧ v = .ref a
abbrev RepWs (I : Inf) (M : List Addr) (H : Hp) : List W → List V → Prop := Paired (RepW I M H)
def W.low (n : Nat) : W → Prop
  | .d _ => True
  | .c j => j < n
def Ce.low (n : Nat) : Ce → Prop
  | .dead => True
  | .lst ws => ∀ w ∈ ws, w.low n
  | .ins _ ws => ∀ w ∈ ws, w.low n
  | .dK kvs => ∀ w ∈ kvs, w.2.low n
  | .dT kvs => ∀ w ∈ kvs, w.2.low n
def CeAt (I : Inf) (M : List Addr) (Hm : Hp) (ho : Option HO) : Ce → Prop
  | .dead => True
  | .lst ws => ∃ vs, ho = some (.lst vs) ∧ RepWs I M Hm ws vs
  | .ins c ws => ∃ (C dx : Addr) (vs : List V), I.G c = some C ∧ ho = some (.ins C dx ((I.fl c).zip vs)) ∧ vs.length ≤ (I.fl c).length ∧ RepWs I M Hm ws vs
  | .dK kvs => ∃ us, ho = some (.dK us) ∧ Paired (fun (p : Key × W) (q : Key × V) => p.1 = q.1 ∧ RepW I M Hm p.2 q.2) kvs us
  | .dT kvs => ∃ us, ho = some (.dT us) ∧ Paired (fun (p : List Key × W) (q : List Key × V) => p.1 = q.1 ∧ RepW I M Hm p.2 q.2) kvs us
structure Sim (I : Inf) (S : Sto) (M : List Addr) (H : Hp) : Prop where
  len : M.length = S.length
  nd : ∀ (i j : Nat) (a : Addr) (c d : Ce), M[i]? = some a → M[j]? = some a → S[i]? = some c → S[j]? = some d → c ≠ .dead → d ≠ .dead → i = j
  trk : ∀ a ∈ M, ∃ o, H a = some o
  cell : ∀ (i : Nat) (o : Ce) (a : Addr), S[i]? = some o → M[i]? = some a → CeAt I M (mask S M H) (H a) o
  low : ∀ (i : Nat) (o : Ce), S[i]? = some o → o.low i
structure Le (S : Sto) (M : List Addr) (H : Hp) (S' : Sto) (M' : List Addr) (H' : Hp) : Prop where
  pre : M <+: M'
  ex : Ex (mask S M H) (mask S' M' H')
theorem Le.refl {S : Sto} {M : List Addr} {H : Hp} : Le S M H S M H := ⟨List.prefix_refl _, Ex.refl _⟩
theorem Le.trans {S S1 S2 : Sto} {M M1 M2 : List Addr} {H H1 H2 : Hp} (a : Le S M H S1 M1 H1) (b : Le S1 M1 H1 S2 M2 H2) : Le S M H S2 M2 H2 := ⟨a.pre.trans b.pre, a.ex.trans b.ex⟩
theorem pre_get {M M' : List Addr} (h : M <+: M') {i : Nat} {a : Addr} (e : M[i]? = some a) : M'[i]? = some a := by
  obtain ⟨t, rfl⟩ := h
  rw [List.getElem?_append_left (List.getElem?_eq_some_iff.mp e).1]
  exact e
theorem RepW.up {I : Inf} {M M' : List Addr} {H H' : Hp} (p : M <+: M') (e : Ex H H') : ∀ {w : W} {v : V}, RepW I M H w v → RepW I M' H' w v
  | .d _, _, r => Rep.mono e r
  | .c _, _, ⟨a, h, q⟩ => ⟨a, pre_get p h, q⟩
theorem RepW.mono {I : Inf} {S S' : Sto} {M M' : List Addr} {H H' : Hp} (l : Le S M H S' M' H') {w : W} {v : V} (r : RepW I M (mask S M H) w v) : RepW I M' (mask S' M' H') w v := r.up l.pre l.ex
theorem RepWs.mono {I : Inf} {S S' : Sto} {M M' : List Addr} {H H' : Hp} (l : Le S M H S' M' H') {w : List W} {v : List V} (r : RepWs I M (mask S M H) w v) : RepWs I M' (mask S' M' H') w v := Paired.mapP r fun _ _ q => q.mono l
theorem CeAt.up {I : Inf} {M M' : List Addr} {Hm Hm' : Hp} {ho : Option HO} {o : Ce} (p : M <+: M') (e : Ex Hm Hm') (r : CeAt I M Hm ho o) : CeAt I M' Hm' ho o := by
  cases o with
  | dead => trivial
  | lst ws => obtain ⟨vs, h, q⟩ := r; exact ⟨vs, h, Paired.mapP q fun _ _ z => z.up p e⟩
  | ins c ws => obtain ⟨C, dx, vs, g, h, l, q⟩ := r; exact ⟨C, dx, vs, g, h, l, Paired.mapP q fun _ _ z => z.up p e⟩
  | dK kvs => obtain ⟨us, h, q⟩ := r; exact ⟨us, h, Paired.mapP q fun _ _ z => ⟨z.1, z.2.up p e⟩⟩
  | dT kvs => obtain ⟨us, h, q⟩ := r; exact ⟨us, h, Paired.mapP q fun _ _ z => ⟨z.1, z.2.up p e⟩⟩
section
variable {I : Inf} {S : Sto} {M : List Addr} {H : Hp}
theorem Sim.at {i : Nat} {o : Ce} (s : Sim I S M H) (e : S[i]? = some o) : ∃ a, M[i]? = some a := by
  have h : i < M.length := by rw [s.len]; exact (List.getElem?_eq_some_iff.mp e).1
  exact ⟨M[i], List.getElem?_eq_getElem h⟩
theorem Sim.fresh {p : Addr} (s : Sim I S M H) (h : H p = none) : p ∉ M := fun m => by
  obtain ⟨o, e⟩ := s.trk p m
  rw [h] at e
  cases e
/-- a new thing, no cell -/
theorem Sim.new {p : Addr} {o : HO} (s : Sim I S M H) (h : H p = none) : Sim I S M (upd H p o) ∧ Le S M H S M (upd H p o) := by
  have np := s.fresh h
  have ex : Ex (mask S M H) (mask S M (upd H p o)) := fun a u e => by
    obtain ⟨n, e⟩ := mask_some.mp e
    exact mask_some.mpr ⟨n, by rw [upd_ne (ne_of_none e h)]; exact e⟩
  refine ⟨⟨s.len, s.nd, fun a m => ?_, fun i c a e1 e2 => ?_, s.low⟩, List.prefix_refl _, ex⟩
  · obtain ⟨u, e⟩ := s.trk a m
    exact ⟨u, by rw [upd_ne (ne_of_none e h)]; exact e⟩
  · have na : a ≠ p := fun q => np (q ▸ List.mem_of_getElem? e2)
    rw [upd_ne na]
    exact (s.cell i c a e1 e2).up (List.prefix_refl _) ex
theorem mask_new {p : Addr} {o : HO} (s : Sim I S M H) (h : H p = none) : mask S M (upd H p o) p = some o :=
  mask_some.mpr ⟨fun ⟨i, c, e, _⟩ => s.fresh h (List.mem_of_getElem? e), upd_same⟩
/-- the heap grows where nothing stood -/
theorem Sim.grow {H' : Hp} (s : Sim I S M H) (e : Ex H H') : Sim I S M H' ∧ Le S M H S M H' := by
  have ex : Ex (mask S M H) (mask S M H') := fun a u q => by
    obtain ⟨n, q⟩ := mask_some.mp q
    exact mask_some.mpr ⟨n, e a u q⟩
  refine ⟨⟨s.len, s.nd, fun a m => ?_, fun i c a e1 e2 => ?_, s.low⟩, List.prefix_refl _, ex⟩
  · obtain ⟨u, q⟩ := s.trk a m
    exact ⟨u, e _ _ q⟩
  · obtain ⟨u, q⟩ := s.trk a (List.mem_of_getElem? e2)
    have h := s.cell i c a e1 e2
    rw [q] at h
    rw [e _ _ q]
    exact h.up (List.prefix_refl _) ex
/-- a new cell -/
theorem Sim.newC {p : Addr} {o : HO} {c : Ce} (s : Sim I S M H) (h : H p = none) (lo : c.low S.length) (hc : CeAt I M (mask S M H) (some o) c) (hd : c ≠ .dead) : Sim I (S ++ [c]) (M ++ [p]) (upd H p o) ∧ Le S M H (S ++ [c]) (M ++ [p]) (upd H p o) := by
  have np := s.fresh h
  have pre : M <+: M ++ [p] := List.prefix_append _ _
  have ex : Ex (mask S M H) (mask (S ++ [c]) (M ++ [p]) (upd H p o)) := fun a u e => by
    obtain ⟨n, e⟩ := mask_some.mp e
    have na : a ≠ p := ne_of_none e h
    refine mask_some.mpr ⟨fun ⟨i, k, e1, e2, e3⟩ => ?_, by rw [upd_ne na]; exact e⟩
    by_cases hi : i < M.length
    · rw [List.getElem?_append_left hi] at e1
      rw [List.getElem?_append_left (by rw [← s.len]; exact hi)] at e2
      exact n ⟨i, k, e1, e2, e3⟩
    · rw [List.getElem?_append_right (Nat.le_of_not_lt hi)] at e1
      have : a = p := by
        have q := List.mem_of_getElem? e1
        simpa using q
      exact na this
  refine ⟨⟨by simp [s.len], fun i j a c1 c2 e1 e2 f1 f2 d1 d2 => ?_, fun a m => ?_, fun i k a e1 e2 => ?_, fun i k e => ?_⟩, pre, ex⟩
  · have lt : ∀ {q : Nat} {x : Addr}, (M ++ [p])[q]? = some x → q ≤ M.length := fun {q x} e => by
      have := (List.getElem?_eq_some_iff.mp e).1
      simp at this
      omega
    have at_ : ∀ {q : Nat}, q < M.length → (M ++ [p])[q]? = M[q]? ∧ (S ++ [c])[q]? = S[q]? := fun {q} h => ⟨List.getElem?_append_left h, List.getElem?_append_left (by rw [← s.len]; exact h)⟩
    have last : ∀ {q : Nat}, q = M.length → (M ++ [p])[q]? = some p := fun {q} h => by subst h; simp
    rcases Nat.lt_or_ge i M.length with hi | hi <;> rcases Nat.lt_or_ge j M.length with hj | hj
    · rw [(at_ hi).1] at e1
      rw [(at_ hj).1] at e2
      rw [(at_ hi).2] at f1
      rw [(at_ hj).2] at f2
      exact s.nd i j a c1 c2 e1 e2 f1 f2 d1 d2
    · rw [(at_ hi).1] at e1
      rw [last (Nat.le_antisymm (lt e2) hj)] at e2
      cases e2
      exact absurd (List.mem_of_getElem? e1) np
    · rw [(at_ hj).1] at e2
      rw [last (Nat.le_antisymm (lt e1) hi)] at e1
      cases e1
      exact absurd (List.mem_of_getElem? e2) np
    · have := lt e1
      have := lt e2
      omega
  · rcases List.mem_append.mp m with m | m
    · obtain ⟨u, e⟩ := s.trk a m
      exact ⟨u, by rw [upd_ne (ne_of_none e h)]; exact e⟩
    · have : a = p := by simpa using m
      exact ⟨o, by rw [this, upd_same]⟩
  · by_cases hi : i < S.length
    · rw [List.getElem?_append_left hi] at e1
      rw [List.getElem?_append_left (by rw [s.len]; exact hi)] at e2
      have na : a ≠ p := fun q => np (q ▸ List.mem_of_getElem? e2)
      rw [upd_ne na]
      exact (s.cell i k a e1 e2).up pre ex
    · have hi' : i = S.length := by
        have := (List.getElem?_eq_some_iff.mp e1).1
        simp at this
        omega
      subst hi'
      rw [List.getElem?_append_right (Nat.le_refl _)] at e1
      rw [List.getElem?_append_right (by rw [s.len]; exact Nat.le_refl _)] at e2
      simp [s.len] at e1 e2
      subst e1
      subst e2
      rw [upd_same]
      exact hc.up pre ex
  · by_cases hi : i < S.length
    · rw [List.getElem?_append_left hi] at e
      exact s.low i k e
    · have hi' : i = S.length := by
        have := (List.getElem?_eq_some_iff.mp e).1
        simp at this
        omega
      subst hi'
      rw [List.getElem?_append_right (Nat.le_refl _)] at e
      simp at e
      subst e
      exact lo
/-- a living cell is written -/
theorem Sim.write {i : Nat} {a : Addr} {o : HO} {c c' : Ce} (s : Sim I S M H) (e : S[i]? = some c) (ea : M[i]? = some a) (hd : c ≠ .dead) (hd' : c' ≠ .dead) (lo : c'.low i) (hc : CeAt I M (mask S M H) (some o) c') :
    Sim I (S.set i c') M (upd H a o) ∧ Le S M H (S.set i c') M (upd H a o) := by
  have hi : i < S.length := (List.getElem?_eq_some_iff.mp e).1
  have liv : ∀ b, (∃ (j : Nat) (k : Ce), M[j]? = some b ∧ (S.set i c')[j]? = some k ∧ k ≠ .dead) → ∃ (j : Nat) (k : Ce), M[j]? = some b ∧ S[j]? = some k ∧ k ≠ .dead := fun b ⟨j, k, e1, e2, e3⟩ => by
    by_cases q : j = i
    · subst q
      exact ⟨j, c, e1, e, hd⟩
    · rw [List.getElem?_set_ne (Ne.symm q)] at e2
      exact ⟨j, k, e1, e2, e3⟩
  have ex : Ex (mask S M H) (mask (S.set i c') M (upd H a o)) := fun b u q => by
    obtain ⟨n, q⟩ := mask_some.mp q
    have nb : b ≠ a := fun z => n ⟨i, c, z ▸ ea, e, hd⟩
    exact mask_some.mpr ⟨fun z => n (liv b z), by rw [upd_ne nb]; exact q⟩
  have old : ∀ {j : Nat} {k : Ce}, (S.set i c')[j]? = some k → k ≠ .dead → ∃ k', S[j]? = some k' ∧ k' ≠ .dead := fun {j k} q d => by
    by_cases z : j = i
    · subst z
      exact ⟨c, e, hd⟩
    · rw [List.getElem?_set_ne (Ne.symm z)] at q
      exact ⟨k, q, d⟩
  refine ⟨⟨by simp [s.len], fun x y b c1 c2 e1 e2 f1 f2 d1 d2 => ?_, fun b m => ?_, fun j k b e1 e2 => ?_, fun j k q => ?_⟩, List.prefix_refl _, ex⟩
  · obtain ⟨k1, g1, u1⟩ := old f1 d1
    obtain ⟨k2, g2, u2⟩ := old f2 d2
    exact s.nd x y b k1 k2 e1 e2 g1 g2 u1 u2
  · by_cases q : b = a
    · exact ⟨o, by rw [q, upd_same]⟩
    · obtain ⟨u, z⟩ := s.trk b m
      exact ⟨u, by rw [upd_ne q]; exact z⟩
  · by_cases q : j = i
    · subst q
      rw [ea] at e2
      cases e2
      rw [List.getElem?_set_self hi] at e1
      cases e1
      rw [upd_same]
      exact hc.up (List.prefix_refl _) ex
    · rw [List.getElem?_set_ne (Ne.symm q)] at e1
      by_cases hk : k = .dead
      · subst hk; trivial
      have nb : b ≠ a := fun z => q (s.nd j i b k c e2 (by rw [z]; exact ea) e1 e hk hd)
      rw [upd_ne nb]
      exact (s.cell j k b e1 e2).up (List.prefix_refl _) ex
  · by_cases z : j = i
    · subst z
      rw [List.getElem?_set_self hi] at q
      cases q
      exact lo
    · rw [List.getElem?_set_ne (Ne.symm z)] at q
      exact s.low j k q
/-- a cell dies: what stands there is data from now on -/
theorem Sim.kill {i : Nat} {c : Ce} (s : Sim I S M H) (e : S[i]? = some c) : Sim I (S.set i .dead) M H ∧ Le S M H (S.set i .dead) M H := by
  have hi : i < S.length := (List.getElem?_eq_some_iff.mp e).1
  have ex : Ex (mask S M H) (mask (S.set i .dead) M H) := fun b u q => by
    obtain ⟨n, q⟩ := mask_some.mp q
    refine mask_some.mpr ⟨fun ⟨j, k, e1, e2, e3⟩ => ?_, q⟩
    by_cases z : j = i
    · subst z
      rw [List.getElem?_set_self hi] at e2
      cases e2
      exact e3 rfl
    · rw [List.getElem?_set_ne (Ne.symm z)] at e2
      exact n ⟨j, k, e1, e2, e3⟩
  have old : ∀ {j : Nat} {k : Ce}, (S.set i .dead)[j]? = some k → k ≠ .dead → S[j]? = some k := fun {j k} q d => by
    by_cases z : j = i
    · subst z
      rw [List.getElem?_set_self hi] at q
      cases q
      exact absurd rfl d
    · rw [List.getElem?_set_ne (Ne.symm z)] at q
      exact q
  refine ⟨⟨by simp [s.len], fun x y b c1 c2 e1 e2 f1 f2 d1 d2 => s.nd x y b c1 c2 e1 e2 (old f1 d1) (old f2 d2) d1 d2, s.trk, fun j k b e1 e2 => ?_, fun j k q => ?_⟩, List.prefix_refl _, ex⟩
  · by_cases q : j = i
    · subst q
      rw [List.getElem?_set_self hi] at e1
      cases e1
      trivial
    · rw [List.getElem?_set_ne (Ne.symm q)] at e1
      exact (s.cell j k b e1 e2).up (List.prefix_refl _) ex
  · by_cases z : j = i
    · subst z
      rw [List.getElem?_set_self hi] at q
      cases q
      trivial
    · rw [List.getElem?_set_ne (Ne.symm z)] at q
      exact s.low j k q
theorem mask_dead {i : Nat} {a : Addr} {c : Ce} (s : Sim I S M H) (e : S[i]? = some c) (ea : M[i]? = some a) (hd : c ≠ .dead := by intro z; cases z) : mask (S.set i .dead) M H a = H a := by
  have hi : i < S.length := (List.getElem?_eq_some_iff.mp e).1
  unfold mask
  split
  · rename_i h
    obtain ⟨j, k, e1, e2, e3⟩ := h
    by_cases z : j = i
    · subst z
      rw [List.getElem?_set_self hi] at e2
      cases e2
      exact absurd rfl e3
    · rw [List.getElem?_set_ne (Ne.symm z)] at e2
      exact absurd (s.nd j i a k c e1 ea e2 e e3 hd) z
  · rfl
/-- a cell is numbered anew, as the last one -/
theorem Sim.move {i : Nat} {a : Addr} {c : Ce} (s : Sim I S M H) (e : S[i]? = some c) (ea : M[i]? = some a) (hd : c ≠ .dead) : Sim I (S.set i .dead ++ [c]) (M ++ [a]) H ∧ Le S M H (S.set i .dead ++ [c]) (M ++ [a]) H := by
  have hi : i < S.length := (List.getElem?_eq_some_iff.mp e).1
  have pre : M <+: M ++ [a] := List.prefix_append _ _
  have hl : (S.set i Ce.dead).length = M.length := by simp [s.len]
  -- a living one of the new store is one of the old, or the last
  have old : ∀ {j : Nat} {k : Ce} {b : Addr}, (S.set i .dead ++ [c])[j]? = some k → (M ++ [a])[j]? = some b → k ≠ .dead → (j < M.length ∧ j ≠ i ∧ S[j]? = some k ∧ M[j]? = some b) ∨ (j = M.length ∧ k = c ∧ b = a) := fun {j k b} q qb d => by
    rcases Nat.lt_or_ge j M.length with h | h
    · left
      rw [List.getElem?_append_left (by rw [hl]; exact h)] at q
      rw [List.getElem?_append_left h] at qb
      by_cases z : j = i
      · subst z
        rw [List.getElem?_set_self hi] at q
        cases q
        exact absurd rfl d
      · rw [List.getElem?_set_ne (Ne.symm z)] at q
        exact ⟨h, z, q, qb⟩
    · right
      have h2 : j = M.length := by
        have := (List.getElem?_eq_some_iff.mp qb).1
        simp at this
        omega
      subst h2
      rw [List.getElem?_append_right (by rw [hl]; exact Nat.le_refl _), hl, Nat.sub_self] at q
      rw [List.getElem?_append_right (Nat.le_refl _), Nat.sub_self] at qb
      cases q
      cases qb
      exact ⟨rfl, rfl, rfl⟩
  have liv : ∀ b, (∃ (j : Nat) (k : Ce), (M ++ [a])[j]? = some b ∧ (S.set i .dead ++ [c])[j]? = some k ∧ k ≠ .dead) ↔ ∃ (j : Nat) (k : Ce), M[j]? = some b ∧ S[j]? = some k ∧ k ≠ .dead := fun b => by
    constructor
    · rintro ⟨j, k, e1, e2, e3⟩
      rcases old e2 e1 e3 with ⟨_, _, h1, h2⟩ | ⟨_, _, rfl⟩
      · exact ⟨j, k, h2, h1, e3⟩
      · exact ⟨i, c, ea, e, hd⟩
    · rintro ⟨j, k, e1, e2, e3⟩
      by_cases z : j = i
      · subst z
        rw [ea] at e1
        cases e1
        refine ⟨M.length, c, by simp, ?_, hd⟩
        rw [List.getElem?_append_right (by rw [hl]; exact Nat.le_refl _), hl, Nat.sub_self]
        rfl
      · have hj : j < M.length := (List.getElem?_eq_some_iff.mp e1).1
        refine ⟨j, k, by rw [List.getElem?_append_left hj]; exact e1, ?_, e3⟩
        rw [List.getElem?_append_left (by rw [hl]; exact hj), List.getElem?_set_ne (Ne.symm z)]
        exact e2
  have em : mask (S.set i .dead ++ [c]) (M ++ [a]) H = mask S M H := by
    funext b
    unfold mask
    by_cases h : ∃ (j : Nat) (k : Ce), M[j]? = some b ∧ S[j]? = some k ∧ k ≠ .dead
    · rw [if_pos h, if_pos ((liv b).mpr h)]
    · rw [if_neg h, if_neg fun z => h ((liv b).mp z)]
  refine ⟨⟨by simp [s.len], fun x y b c1 c2 e1 e2 f1 f2 d1 d2 => ?_, fun b m => ?_, fun j k b e1 e2 => ?_, fun j k q => ?_⟩, pre, by rw [em]; exact Ex.refl _⟩
  · rcases old f1 e1 d1 with ⟨_, n1, g1, h1⟩ | ⟨z1, _, b1⟩ <;> rcases old f2 e2 d2 with ⟨_, n2, g2, h2⟩ | ⟨z2, _, b2⟩
    · exact s.nd x y b c1 c2 h1 h2 g1 g2 d1 d2
    · subst b2
      exact absurd (s.nd x i b c1 c h1 ea g1 e d1 hd) n1
    · subst b1
      exact absurd (s.nd y i b c2 c h2 ea g2 e d2 hd) n2
    · rw [z1, z2]
  · rcases List.mem_append.mp m with m | m
    · exact s.trk b m
    · have : b = a := by simpa using m
      subst this
      exact s.trk b (List.mem_of_getElem? ea)
  · by_cases hk : k = .dead
    · subst hk; trivial
    · rw [em]
      rcases old e1 e2 hk with ⟨_, _, h1, h2⟩ | ⟨_, rfl, rfl⟩
      · exact (s.cell j k b h1 h2).up pre (Ex.refl _)
      · exact (s.cell i k b e ea).up pre (Ex.refl _)
  · by_cases hk : k = .dead
    · subst hk; trivial
    · obtain ⟨b, eb⟩ : ∃ b, (M ++ [a])[j]? = some b := by
        have h1 := (List.getElem?_eq_some_iff.mp q).1
        have h2 : j < (M ++ [a]).length := by simp at h1 ⊢; rw [s.len]; exact h1
        exact ⟨_, List.getElem?_eq_getElem h2⟩
      rcases old q eb hk with ⟨_, _, h1, _⟩ | ⟨rfl, rfl, _⟩
      · exact s.low j k h1
      · have := s.low i k e
        have le : i ≤ M.length := by rw [s.len]; exact Nat.le_of_lt hi
        have up : ∀ {w : W}, w.low i → w.low M.length := fun {w} h => by
          cases w with
          | d x => trivial
          | c j => exact Nat.lt_of_lt_of_le h le
        cases k with
        | dead => trivial
        | lst ws => exact fun w m => up (this w m)
        | ins c ws => exact fun w m => up (this w m)
        | dK ws => exact fun w m => up (this w m)
        | dT ws => exact fun w m => up (this w m)
/-- the cells behind the first n are forgotten -/
theorem Sim.cut {n : Nat} (s : Sim I S M H) : Sim I (S.take n) (M.take n) H ∧ Ex (mask S M H) (mask (S.take n) (M.take n) H) := by
  have tk : ∀ {α : Type} {l : List α} {i : Nat} {x : α}, (l.take n)[i]? = some x → l[i]? = some x ∧ i < n := fun {α l i x} e => by
    rw [List.getElem?_take] at e
    split at e
    · exact ⟨e, by assumption⟩
    · cases e
  have ex : Ex (mask S M H) (mask (S.take n) (M.take n) H) := fun b u q => by
    obtain ⟨k, q⟩ := mask_some.mp q
    exact mask_some.mpr ⟨fun ⟨j, z, e1, e2, e3⟩ => k ⟨j, z, (tk e1).1, (tk e2).1, e3⟩, q⟩
  have upl : ∀ {i : Nat} {w : W} {v : V}, i ≤ n → w.low i → RepW I M (mask S M H) w v → RepW I (M.take n) (mask (S.take n) (M.take n) H) w v := fun {i w v} hi lo r => by
    cases w with
    | d x => exact Rep.mono ex r
    | c j =>
      obtain ⟨a, e, q⟩ := r
      refine ⟨a, ?_, q⟩
      have lo' : j < i := lo
      rw [List.getElem?_take, if_pos (by omega)]
      exact e
  have uplP : ∀ {i : Nat} {ws : List W} {vs : List V}, i ≤ n → (∀ w ∈ ws, w.low i) → RepWs I M (mask S M H) ws vs → RepWs I (M.take n) (mask (S.take n) (M.take n) H) ws vs := fun {i ws vs} hi lo r => by
    induction r with
    | nil => exact .nil
    | cons r t ih => exact .cons (upl hi (lo _ (by simp)) r) (ih fun w m => lo w (by simp [m]))
  have uplK : ∀ {κ : Type} {i : Nat} {ws : List (κ × W)} {vs : List (κ × V)}, i ≤ n → (∀ w ∈ ws, w.2.low i) → Paired (fun (p : κ × W) (q : κ × V) => p.1 = q.1 ∧ RepW I M (mask S M H) p.2 q.2) ws vs →
      Paired (fun (p : κ × W) (q : κ × V) => p.1 = q.1 ∧ RepW I (M.take n) (mask (S.take n) (M.take n) H) p.2 q.2) ws vs := fun {κ i ws vs} hi lo r => by
    induction r with
    | nil => exact .nil
    | cons r t ih => exact .cons ⟨r.1, upl hi (lo _ (by simp)) r.2⟩ (ih fun w m => lo w (by simp [m]))
  refine ⟨⟨by simp [s.len], fun x y b c1 c2 e1 e2 f1 f2 d1 d2 => s.nd x y b c1 c2 (tk e1).1 (tk e2).1 (tk f1).1 (tk f2).1 d1 d2, fun a m => s.trk a (List.mem_of_mem_take m), fun i c a e1 e2 => ?_, fun i c e => s.low i c (tk e).1⟩, ex⟩
  have h := s.cell i c a (tk e1).1 (tk e2).1
  have lo := s.low i c (tk e1).1
  have hi : i ≤ n := Nat.le_of_lt (tk e1).2
  cases c with
  | dead => trivial
  | lst ws => obtain ⟨vs, h, q⟩ := h; exact ⟨vs, h, uplP hi lo q⟩
  | ins c ws => obtain ⟨C, dx, vs, g, h, l, q⟩ := h; exact ⟨C, dx, vs, g, h, l, uplP hi lo q⟩
  | dK kvs => obtain ⟨us, h, q⟩ := h; exact ⟨us, h, uplK hi lo q⟩
  | dT kvs => obtain ⟨us, h, q⟩ := h; exact ⟨us, h, uplK hi lo q⟩
end
end Py

/-! Py2: how code is read; the context; plain expressions. -/
namespace Py
open PySem PySem.Spec PyProof.Rows L2

/-- an exception: its class, its what -/
def RepX (I : Inf) (H : Hp) (c : Nat) (x : D) (cls : Value) (dd : Option Addr) : Prop := ∃ (C p : Addr) (v : V), I.G c = some C ∧ cls = .ref C ∧ dd = some p ∧ H p = some (.xd [(("what" : Str), v)]) ∧ Rep I H x v
theorem RepX.mono {I : Inf} {H H' : Hp} {c : Nat} {x : D} {cls : Value} {dd : Option Addr} (e : Ex H H') (r : RepX I H c x cls dd) : RepX I H' c x cls dd := by
  obtain ⟨C, p, v, a1, a2, a3, a4, a5⟩ := r
  exact ⟨C, p, v, a1, a2, a3, e _ _ a4, a5.mono e⟩
structure Slots (I : Inf) (M : List Addr) (H : Hp) (env : Env) (σ : L2.St) : Prop where
  len : env.length = σ.length
  get : ∀ (i : Nat) (w : W), env[i]? = some (some w) → ∃ v, σ[i]? = some (some v) ∧ RepW I M H w v
theorem Slots.mono {I : Inf} {S S' : Sto} {M M' : List Addr} {H H' : Hp} {env : Env} {σ : L2.St} (s : Slots I M (mask S M H) env σ) (l : Le S M H S' M' H') : Slots I M' (mask S' M' H') env σ :=
  ⟨s.len, fun i w e => let ⟨v, a, b⟩ := s.get i w e; ⟨v, a, b.mono l⟩⟩
theorem Slots.set {I : Inf} {M : List Addr} {H : Hp} {env : Env} {σ : L2.St} {i : Nat} {w : W} {v : V} (s : Slots I M H env σ) (r : RepW I M H w v) : Slots I M H (env.set i (some w)) (σ.set i (some v)) := by
  refine ⟨by simp [s.len], fun j u e => ?_⟩
  rw [List.getElem?_set] at e
  rw [List.getElem?_set]
  by_cases h : i = j
  · rw [if_pos h] at e ⊢
    by_cases hi : i < env.length
    · rw [if_pos hi] at e
      have q : w = u := by simpa using e
      rw [if_pos (by rw [← s.len]; exact hi)]
      exact ⟨v, rfl, q ▸ r⟩
    · rw [if_neg hi] at e
      cases e
  · rw [if_neg h] at e ⊢
    exact s.get j u e
theorem Slots.unset {I : Inf} {M : List Addr} {H : Hp} {env : Env} {σ : L2.St} {i : Nat} (s : Slots I M H env σ) : Slots I M H (env.set i none) σ := by
  refine ⟨by simp [s.len], fun j u e => ?_⟩
  rw [List.getElem?_set] at e
  by_cases h : i = j
  · rw [if_pos h] at e
    split at e
    · simp at e
    · cases e
  · rw [if_neg h] at e
    exact s.get j u e
/-- what an ending asks -/
def EndR {α β : Type} (I : Inf) (S : Sto) (M : List Addr) (H : Hp) (rel : List Addr → Hp → α → β → Prop) (Q : β → Hp → Prop) (E : XK) : R α → Prop
  | .ok a S' => ∀ (b : β) (H' : Hp) (M' : List Addr), Le S M H S' M' H' → Sim I S' M' H' → rel M' (mask S' M' H') a b → Q b H'
  | .exc c x S' => ∀ (cls : Value) (dd : Option Addr) (H' : Hp) (M' : List Addr), Le S M H S' M' H' → Sim I S' M' H' → RepX I (mask S' M' H') c x cls dd → E cls dd H'
  | .bad => False
section
variable {α β γ δ : Type} {I : Inf} {S S1 : Sto} {M M1 : List Addr} {H H1 : Hp} {rel : List Addr → Hp → α → β → Prop} {rel1 : List Addr → Hp → γ → δ → Prop} {Q Q' : β → Hp → Prop} {E E' : XK}
theorem EndR.imp {r : R α} (h : EndR I S M H rel Q E r) (hQ : ∀ b H', Q b H' → Q' b H') : EndR I S M H rel Q' E r := by
  cases r with
  | ok a S' => exact fun b H' M' l s q => hQ _ _ (h b H' M' l s q)
  | exc c x S' => exact h
  | bad => exact h
theorem EndR.up {r : R α} (h : EndR I S M H rel Q E r) (l : Le S M H S1 M1 H1) : EndR I S1 M1 H1 rel Q E r := by
  cases r with
  | ok a S' => exact fun b H' M' l' s q => h b H' M' (l.trans l') s q
  | exc c x S' => exact fun cls dd H' M' l' s q => h cls dd H' M' (l.trans l') s q
  | bad => exact h
theorem EndR.bind {r : R γ} {f : γ → Sto → R α} (h : EndR I S M H rel Q E (r.bind f)) :
    EndR I S M H rel1 (fun b H1 => ∃ (a : γ) (S1 : Sto) (M1 : List Addr), Le S M H S1 M1 H1 ∧ Sim I S1 M1 H1 ∧ rel1 M1 (mask S1 M1 H1) a b ∧ EndR I S1 M1 H1 rel Q E (f a S1)) E r := by
  cases r with
  | ok a S' => exact fun b H' M' l s q => ⟨a, S', M', l, s, q, EndR.up (r := f a S') h l⟩
  | exc c x S' => exact h
  | bad => exact h
/-- an ending without change -/
theorem EndR.here {a : α} {b : β} (h : EndR I S M H rel Q E (.ok a S)) (s : Sim I S M H) (r : rel M (mask S M H) a b) : Q b H := h b H M Le.refl s r
end
def rdE (I : Inf) (w : WX) (de : DE) : TE := fun σ H Q => ∃ (env : Env) (S : Sto) (M : List Addr), Sim I S M H ∧ Slots I M (mask S M H) env σ ∧ EndR I S M H (RepW I) Q (fun cls dd H' => w cls dd σ H') (de env S)
def rdT (I : Inf) (w : WX) (dt : DT) : TT := fun σ H Q => ∃ (env : Env) (S : Sto) (M : List Addr), Sim I S M H ∧ Slots I M (mask S M H) env σ ∧ EndR I S M H (fun _ _ a b => a = b) Q (fun cls dd H' => w cls dd σ H') (dt env S)
def rdA (I : Inf) (w : WX) (da : DA) : TA := fun σ H Q => ∃ (env : Env) (S : Sto) (M : List Addr), Sim I S M H ∧ Slots I M (mask S M H) env σ ∧ EndR I S M H (RepWs I) Q (fun cls dd H' => w cls dd σ H') (da env S)
def EndS (I : Inf) (S : Sto) (M : List Addr) (H : Hp) (D : Ends) (w : WX) : RS → Prop
  | .nx e S' => ∀ (σ' : L2.St) (H' : Hp) (M' : List Addr), Le S M H S' M' H' → Sim I S' M' H' → Slots I M' (mask S' M' H') e σ' → D.nx σ' H'
  | .bk e S' => ∀ (σ' : L2.St) (H' : Hp) (M' : List Addr), Le S M H S' M' H' → Sim I S' M' H' → Slots I M' (mask S' M' H') e σ' → D.bk σ' H'
  | .ct e S' => ∀ (σ' : L2.St) (H' : Hp) (M' : List Addr), Le S M H S' M' H' → Sim I S' M' H' → Slots I M' (mask S' M' H') e σ' → D.ct σ' H'
  | .rt a S' => ∀ (v : V) (H' : Hp) (M' : List Addr), Le S M H S' M' H' → Sim I S' M' H' → RepW I M' (mask S' M' H') a v → D.rt v H'
  | .exc c x e S' => ∀ (cls : Value) (dd : Option Addr) (σ' : L2.St) (H' : Hp) (M' : List Addr), Le S M H S' M' H' → Sim I S' M' H' → Slots I M' (mask S' M' H') e σ' → RepX I (mask S' M' H') c x cls dd → w cls dd σ' H'
  | .bad => False
def rdS (I : Inf) (w : WX) (ds : DS) : TS := fun D σ H => ∃ (env : Env) (S : Sto) (M : List Addr), Sim I S M H ∧ Slots I M (mask S M H) env σ ∧ EndS I S M H D w (ds env S)
theorem EndS.up {I : Inf} {S S1 : Sto} {M M1 : List Addr} {H H1 : Hp} {D : Ends} {w : WX} {r : RS} (h : EndS I S M H D w r) (l : Le S M H S1 M1 H1) : EndS I S1 M1 H1 D w r := by
  cases r with
  | nx e S' => exact fun σ' H' M' l' => h σ' H' M' (l.trans l')
  | bk e S' => exact fun σ' H' M' l' => h σ' H' M' (l.trans l')
  | ct e S' => exact fun σ' H' M' l' => h σ' H' M' (l.trans l')
  | rt e S' => exact fun σ' H' M' l' => h σ' H' M' (l.trans l')
  | exc c x e S' => exact fun cls dd σ' H' M' l' => h cls dd σ' H' M' (l.trans l')
  | bad => exact h

theorem PE_imp {X : Cx} {e : Expr} {t t' : TE} (h : PE X e t) (i : ∀ σ H Q, t' σ H Q → t σ H Q) : PE X e t' := ⟨fun pins s σ H Q I q => h.run pins s σ H Q I (i σ H Q q)⟩
theorem PT_imp {X : Cx} {e : Expr} {t t' : TT} (h : PT X e t) (i : ∀ σ H Q, t' σ H Q → t σ H Q) : PT X e t' := ⟨fun pins s σ H Q I q => h.run pins s σ H Q I (i σ H Q q)⟩
theorem PW_imp {X : Cx} {e : Expr} {t t' : TT} (h : PW X e t) (i : ∀ σ H Q, t' σ H Q → t σ H Q) : PW X e t' := ⟨fun wh pins s σ H Q I q => h.run wh pins s σ H Q I (i σ H Q q)⟩
theorem PA_imp {X : Cx} {e : List Expr} {t t' : TA} (h : PA X e t) (i : ∀ σ H Q, t' σ H Q → t σ H Q) : PA X e t' := ⟨fun pos pins s σ H Q I q => h.run pos pins s σ H Q I (i σ H Q q)⟩
theorem PS_imp {X : Cx} {e : Stmt} {t t' : TS} (h : PS X e t) (i : ∀ D σ H, t' D σ H → t D σ H) : PS X e t' := ⟨fun pins s σ H D I q => h.run pins s σ H D I (i D σ H q)⟩
theorem PSs_imp {X : Cx} {e : List Stmt} {t t' : TS} (h : PSs X e t) (i : ∀ D σ H, t' D σ H → t D σ H) : PSs X e t' := ⟨fun pins s σ H D I q => h.run pins s σ H D I (i D σ H q)⟩

/-! ### the program's names -/
structure Sg where
  fl : Nat → List Str
  nm : Nat → Option (Str × Nat)
  mt : Nat → Option (Nat × Str × Nat)
  ini : Nat → Option (Str × Nat × Nat × List (List V))
  kw : Nat → Option (Str × Nat × Nat × Nat × List Str)
  prop : Nat → Option (Nat × Str)
  blt : Str → Bool
  con : Str → Option V
  cn : Str → Option Nat
  sub : Nat → Nat → Bool
/-- where the classes stand -/
structure Jn where
  sg : Sg
  G : Nat → Option Addr
abbrev Jn.inf (J : Jn) (K : PySem.W.Frag) : Inf := ⟨K, J.G, J.sg.fl⟩
/-- a def's promise by its function -/
def spOf (I : Inf) (F : FnTab) (f n : Nat) : Sp := fun vs H Q E => vs.length = n ∧ ∃ (ws : List W) (S : Sto) (M : List Addr), Sim I S M H ∧ RepWs I M (mask S M H) ws vs ∧ EndR I S M H (RepW I) Q E (F f ws S)
/-- what a called def does, F; what an __init__ does, Fi; the classes -/
structure Tb (J : Jn) (P : Program) (wd : World) (K : PySem.W.Frag) (mg : Str → Option Value) (base : Heap) (F Fi : FnTab) (k : Nat) : Prop where
  call : ∀ f x n, J.sg.nm f = some (x, n) → ∃ (fa : Addr) (fd : FuncData) (ps : List Str), mg x = some (.ref fa) ∧ PySem.W.keepIn K (.ref fa) = true ∧ FnOk P wd K mg base (L2.CX P wd) (k + 1) fa fd ps (spOf (J.inf K) F f n) ∧ Binds K fd ps []
  meth : ∀ f c m n, J.sg.mt f = some (c, m, n) → ∃ (C fa : Addr) (fd : FuncData) (ps : List Str), J.G c = some C ∧ Meth K C m fa ∧ FnOk P wd K mg base (L2.CX P wd) (k + 1) fa fd ps (spOf (J.inf K) F f n) ∧ Binds K fd ps []
  make : ∀ c x f n dfl, J.sg.ini c = some (x, f, n, dfl) → ∃ (C fa : Addr) (fd : FuncData) (ps : List Str), J.G c = some C ∧ mg x = some (.ref C) ∧ Mk K C fa ∧ FnOk P wd K mg base (L2.CX P wd) k fa fd ps (spOf (J.inf K) Fi f n) ∧ ∀ dvs ∈ dfl, ∃ ds, Vals dvs ds ∧ Binds K fd ps ds
  makeK : ∀ c x f n m ks, J.sg.kw c = some (x, f, n, m, ks) → ∃ (C fa : Addr) (fd : FuncData) (ps : List Str), J.G c = some C ∧ mg x = some (.ref C) ∧ Mk K C fa ∧ FnOk P wd K mg base (L2.CX P wd) k fa fd ps (spOf (J.inf K) Fi f n) ∧ KBn K fd ps (m + 1) ks (fun us ws => us ++ ws) (fun vs zs => vs ++ zs)
  low : ∀ f c m n, J.sg.mt f = some (c, m, n) → ∃ (C fa : Addr) (fd : FuncData) (ps : List Str), J.G c = some C ∧ Meth K C m fa ∧ FnOk P wd K mg base (L2.CX P wd) k fa fd ps (spOf (J.inf K) Fi f n) ∧ Binds K fd ps []
  fi : ∀ f c m n, J.sg.mt f = some (c, m, n) → ∃ (C fa : Addr), J.G c = some C ∧ Meth K C m fa ∧ PySem.W.fnIn K fa = true
  prop : ∀ f c x, J.sg.prop f = some (c, x) → ∃ (C p g : Addr) (fd : FuncData) (ps : List Str), J.G c = some C ∧ PropOf K C x p g ∧ FnOk P wd K mg base (L2.CX P wd) k g fd ps (spOf (J.inf K) Fi f 1) ∧ Binds K fd ps []
  cls : ∀ c C, J.G c = some C → Cls K C
  nat : ∀ c C x, J.G c = some C → x ∈ J.sg.fl c → NoAttr K C x
  glb : ∀ x, J.sg.blt x = true → mg x = none
  con : ∀ x v, J.sg.con x = some v → ∃ u, mg x = some u ∧ RelV v u
  cnm : ∀ x c, J.sg.cn x = some c → ∃ C, J.G c = some C ∧ mg x = some (.ref C)
  ty : ∀ c C, J.G c = some C → PySem.W.findIn K (.ref C) "__class__" = some (some (.builtin "object.__class__")) ∧ PySem.W.specialIn K (.builtin "object.__class__") "__get__" = some (some (.builtin "getset_descriptor.__get__")) ∧ PySem.W.takesIn K (.builtin "object.__class__") = some true ∧ PySem.W.mroIn K C (.type "object") = some true
  sf : ∀ c C, J.G c = some C → PySem.W.selfFirst K C = true
  isc : ∀ c c' C C', J.G c = some C → J.G c' = some C' → PySem.W.kitOne K (.ref C) (.ref C') = some (J.sg.sub c c')
  isb : ∀ (T : String) c C, T ∈ ["NoneType", "bool", "int", "str", "tuple", "list", "dict"] → J.G c = some C → PySem.W.kitOne K (.type T) (.ref C) = some false
  ist : ∀ (T : String) c C, T ∈ ["NoneType", "bool", "int", "str", "tuple", "list", "dict"] → J.G c = some C → PySem.W.kitOne K (.ref C) (.type T) = some false
/-- what the code may lean on -/
structure Cok (J : Jn) (X : Cx) (w : WX) (F Fi : FnTab) (k : Nat) : Prop extends Tb J X.prog X.w X.K X.mg X.base F Fi k where
  calm : X.calm = true
  nd : X.N.Nodup
  tk : Takes X w
  po : PassesOwn (model X.prog X.w) X.A X.env X.xe
  room : Room (k + 1) X.A
abbrev w0 : WX := fun _ _ _ _ => False
theorem Cok.blk {J : Jn} {X : Cx} {w : WX} {F Fi : FnTab} {k : Nat} (c : Cok J X w F Fi k) (s : Shared) (H : Hp) (scope : Scope) (cenv : PySem.Env) (fp : List Addr) : Cok J (X.blk s H scope cenv fp) w0 F Fi k :=
  ⟨c.toTb, c.calm, c.nd, takes0, PassesOwn.never, c.room⟩
end Py

/-! Py3: expressions. -/
namespace Py
open PySem PySem.Spec PyProof.Rows L2
@[simp] def R.ne {α : Type} : R α → R α
  | .ok a S => .ok a S
  | _ => .bad
theorem EndR.ne {α β : Type} {I : Inf} {S : Sto} {M : List Addr} {H : Hp} {rel : List Addr → Hp → α → β → Prop} {Q : β → Hp → Prop} {E E' : XK} {r : R α} (h : EndR I S M H rel Q E r.ne) : EndR I S M H rel Q E' r := by
  cases r with
  | ok a S' => exact h
  | exc c x S' => exact h.elim
  | bad => exact h

/-! ### what the combinators do -/
@[simp] def dVar (i : Nat) : DE := fun e S => match e[i]? with
  | some (some w) => .ok w S
  | _ => .bad
@[simp] def dC (x : D) : DE := fun _ S => .ok (.d x) S
@[simp] def dOp (f : W → W → Sto → R W) (a b : DE) : DE := fun e S => (a e S).bind fun x S1 => (b e S1).bind fun y S2 => (f x y S2).ne
@[simp] def dUn (f : W → Sto → R W) (a : DE) : DE := fun e S => (a e S).bind fun x S1 => (f x S1).ne
@[simp] def dNil : DA := fun _ S => .ok [] S
@[simp] def dCons (a : DE) (r : DA) : DA := fun e S => (a e S).bind fun x S1 => (r e S1).bind fun xs S2 => .ok (x :: xs) S2
/-- all plain -/
@[simp] def plainL : List W → Option (List D)
  | [] => some []
  | .d x :: r => match plainL r with
    | some xs => some (x :: xs)
    | none => none
  | .c _ :: _ => none
@[simp] def dTup (a : DA) : DE := fun e S => (a e S).bind fun ws S1 => match plainL ws with
  | some xs => if xs.length ≤ sizeLine then .ok (.d (.tup xs)) S1 else .bad
  | none => .bad
@[simp] def dLst (a : DA) : DE := fun e S => (a e S).bind fun ws S1 => match plainL ws with
  | some xs => if xs.length ≤ sizeLine then .ok (.d (.lst xs)) S1 else .bad
  | none => .bad
/-- a list display that is a cell -/
@[simp] def dLstC (a : DA) : DE := fun e S => (a e S).bind fun ws S1 => if ws.length ≤ sizeLine then .ok (.c S1.length) (S1 ++ [.lst ws]) else .bad
/-- the cell is given up: what it holds is plain data from now on -/
@[simp] def frz : W → Sto → R W
  | .d x, S => .ok (.d x) S
  | .c i, S => match S[i]? with
    | some (.lst ws) => match plainL ws with
      | some xs => .ok (.d (.lst xs)) (S.set i .dead)
      | none => .bad
    | _ => .bad
@[simp] def dFrz (a : DE) : DE := fun e S => (a e S).bind frz
/-- what a list or tuple holds -/
@[simp] def seqOf : W → Sto → Option (List W)
  | .d (.tup xs), _ => some (xs.map W.d)
  | .d (.lst xs), _ => some (xs.map W.d)
  | .d (.lsx xs), _ => some (xs.map W.d)
  | .c i, S => match S[i]? with
    | some (.lst ws) => some ws
    | _ => none
  | _, _ => none
@[simp] def opIx : W → W → Sto → R W
  | .d (.str x), .d (.int i), S => if x.length ≤ sizeLine then (match atI x.cps.toList i with
    | some c => .ok (.d (.str ⟨#[c]⟩)) S
    | none => .bad) else .bad
  | w, .d (.int i), S => match seqOf w S with
    | some ws => match atI ws i with
      | some v => .ok v S
      | none => .bad
    | none => .bad
  | _, _, _ => .bad
section
variable {J : Jn} {X : Cx} {w : WX} {a b c : Expr} {es : List Expr} {da db dc : DE} {dr : DA} {pos : Pos}
theorem rdE_dVar {I : Inf} {i : Nat} {σ : L2.St} {H : Hp} {Q : VK} (h : rdE I w (dVar i) σ H Q) : tVar i σ H Q := by
  obtain ⟨e, S, M, sim, sl, p⟩ := h
  unfold dVar at p
  split at p
  · rename_i u hu
    obtain ⟨v, h1, h2⟩ := sl.get i u hu
    exact ⟨v, h1, p.here sim h2⟩
  · exact p.elim
theorem sx_var {I : Inf} {i : Nat} (h : PE X a (tVar i)) : PE X a (rdE I w (dVar i)) := PE_imp h fun _ _ _ => rdE_dVar
theorem sx_c {I : Inf} {v : V} {x : D} (h : PE X a (tC v)) (r : ∀ H, Rep I H x v) : PE X a (rdE I w (dC x)) := PE_imp h fun σ H Q ⟨e, S, M, sim, sl, p⟩ => EndR.here (rel := RepW I) p sim (r _)
theorem sx_int {I : Inf} {i : Int} {j : Nat} : PE X (.Constant (.int i) j pos) (rdE I w (dC (.int i))) := sx_c pe_int fun _ => .int i
theorem sx_bl {I : Inf} {i : Bool} {j : Nat} : PE X (.Constant (.bool i) j pos) (rdE I w (dC (.bl i))) := sx_c pe_bl fun _ => .bl i
theorem sx_non {I : Inf} {j : Nat} : PE X (.Constant .none j pos) (rdE I w (dC .non)) := sx_c pe_non fun _ => .non
theorem sx_str {I : Inf} {i : Str} {j : Nat} : PE X (.Constant (.str i) j pos) (rdE I w (dC (.str i))) := sx_c pe_str fun _ => .str i
/-- a constant of the module that is a text, an int -/
theorem sx_gs {F Fi : FnTab} {k : Nat} {x s : Str} (c : Cok J X w F Fi k) (h : J.sg.con x = some (.str s)) (hg : Gl X x := by rfl) (hd : (x == ("__debug__" : Str)) = false := by decide) : PE X (.Name x pos) (rdE (J.inf X.K) w (dC (.str s))) := by
  obtain ⟨u, h1, h2⟩ := c.con x _ h
  exact sx_c (pe_glob hg h1 h2 hd) fun _ => .str s
theorem sx_gi {F Fi : FnTab} {k : Nat} {x : Str} {i : Int} (c : Cok J X w F Fi k) (h : J.sg.con x = some (.int i)) (hg : Gl X x := by rfl) (hd : (x == ("__debug__" : Str)) = false := by decide) : PE X (.Name x pos) (rdE (J.inf X.K) w (dC (.int i))) := by
  obtain ⟨u, h1, h2⟩ := c.con x _ h
  exact sx_c (pe_glob hg h1 h2 hd) fun _ => .int i
/-- two in a row -/
theorem rd_two {I : Inf} {α β : Type} {rel : List Addr → Hp → α → β → Prop} {σ : L2.St} {H : Hp} {Q : β → Hp → Prop} {f : W → W → Sto → R α} {P : V → V → Hp → Prop}
    (h : ∃ (env : Env) (S : Sto) (M : List Addr), Sim I S M H ∧ Slots I M (mask S M H) env σ ∧ EndR I S M H rel Q (fun cls dd H' => w cls dd σ H') ((da env S).bind fun x S1 => (db env S1).bind fun y S2 => f x y S2))
    (k : ∀ (x y : W) (v u : V) (S : Sto) (M : List Addr) (H : Hp), Sim I S M H → RepW I M (mask S M H) x v → RepW I M (mask S M H) y u → EndR I S M H rel Q (fun cls dd H' => w cls dd σ H') (f x y S) → P v u H) :
    rdE I w da σ H fun v H1 => rdE I w db σ H1 fun u H2 => P v u H2 := by
  obtain ⟨e, S, M, sim, sl, p⟩ := h
  refine ⟨e, S, M, sim, sl, (EndR.bind (rel1 := RepW I) p).imp fun v H1 ⟨x, S1, M1, l1, s1, r1, p1⟩ => ?_⟩
  refine ⟨e, S1, M1, s1, sl.mono l1, (EndR.bind (rel1 := RepW I) p1).imp fun u H2 ⟨y, S2, M2, l2, s2, r2, p2⟩ => ?_⟩
  exact k x y v u S2 M2 H2 s2 (r1.mono l2) r2 p2
theorem rd_one {I : Inf} {α β : Type} {rel : List Addr → Hp → α → β → Prop} {σ : L2.St} {H : Hp} {Q : β → Hp → Prop} {f : Env → W → Sto → R α} {P : V → Hp → Prop}
    (h : ∃ (env : Env) (S : Sto) (M : List Addr), Sim I S M H ∧ Slots I M (mask S M H) env σ ∧ EndR I S M H rel Q (fun cls dd H' => w cls dd σ H') ((da env S).bind fun x S1 => f env x S1))
    (k : ∀ (x : W) (v : V) (env : Env) (S : Sto) (M : List Addr) (H : Hp), Sim I S M H → Slots I M (mask S M H) env σ → RepW I M (mask S M H) x v → EndR I S M H rel Q (fun cls dd H' => w cls dd σ H') (f env x S) → P v H) :
    rdE I w da σ H P := by
  obtain ⟨e, S, M, sim, sl, p⟩ := h
  exact ⟨e, S, M, sim, sl, (EndR.bind (rel1 := RepW I) p).imp fun v H1 ⟨x, S1, M1, l1, s1, r1, p1⟩ => k x v e S1 M1 H1 s1 (sl.mono l1) r1 p1⟩
def rdOp (I : Inf) (f : W → W → Sto → R W) : R2 := fun v u H Q => ∃ (x y : W) (S : Sto) (M : List Addr), Sim I S M H ∧ RepW I M (mask S M H) x v ∧ RepW I M (mask S M H) y u ∧ EndR I S M H (RepW I) Q E0 (f x y S)
def rdUn (I : Inf) (f : W → Sto → R W) : V → Hp → VK → Prop := fun v H Q => ∃ (x : W) (S : Sto) (M : List Addr), Sim I S M H ∧ RepW I M (mask S M H) x v ∧ EndR I S M H (RepW I) Q E0 (f x S)
theorem rd_op {I : Inf} {f : W → W → Sto → R W} {σ : L2.St} {H : Hp} {Q : VK} (h : rdE I w (dOp f da db) σ H Q) : tOp (rdOp I f) (rdE I w da) (rdE I w db) σ H Q :=
  rd_two h fun x y _ _ S M _ s rx ry p => ⟨x, y, S, M, s, rx, ry, p.ne⟩
theorem rd_un {I : Inf} {f : W → Sto → R W} {σ : L2.St} {H : Hp} {Q : VK} (h : rdE I w (dUn f da) σ H Q) : tUn (rdUn I f) (rdE I w da) σ H Q :=
  rd_one h fun x _ _ S M _ s _ rx p => ⟨x, S, M, s, rx, p.ne⟩
theorem sx_op {I : Inf} {op : Operator} {f : W → W → Sto → R W} (ho : OpR X (binaryOp op) (rdOp I f)) (ha : PE X a (rdE I w da)) (hb : PE X b (rdE I w db)) : PE X (.BinOp a op b pos) (rdE I w (dOp f da db)) :=
  PE_imp (pe_op ho ha hb) fun _ _ _ => rd_op
theorem sx_un {I : Inf} {op : UnaryOp} {f : W → Sto → R W} (ho : UnR X (unaryOp op) (rdUn I f)) (ha : PE X a (rdE I w da)) : PE X (.UnaryOp op a pos) (rdE I w (dUn f da)) :=
  PE_imp (pe_un ho ha) fun _ _ _ => rd_un
theorem sx_cmp {I : Inf} {op : CmpOp} {f : W → W → Sto → R W} (ho : OpR X (compareOp op) (rdOp I f)) (ha : PE X a (rdE I w da)) (hb : PE X b (rdE I w db)) (hm : behindInMarks op b = false := by first | exact nomark _ | rfl) : PE X (.Compare a [op] [b] pos) (rdE I w (dOp f da db)) :=
  PE_imp (pe_cmpR ho ha hb hm) fun _ _ _ => rd_op
/-! arguments -/
theorem sa_nil {I : Inf} : PA X [] (rdA I w dNil) := PA_imp pa_nil fun σ H Q ⟨e, S, M, sim, sl, p⟩ => EndR.here (rel := RepWs I) p sim .nil
theorem sa_cons {I : Inf} (ha : PE X a (rdE I w da)) (hr : PA X es (rdA I w dr)) (hs : starEach (a :: es) X.env = (false, eval a X.env) :: starEach es X.env := by rfl) : PA X (a :: es) (rdA I w (dCons da dr)) :=
  PA_imp (pa_cons ha hr hs) fun σ H Q h => by
    obtain ⟨e, S, M, sim, sl, p⟩ := h
    refine ⟨e, S, M, sim, sl, (EndR.bind (rel1 := RepW I) p).imp fun v H1 ⟨x, S1, M1, l1, s1, r1, p1⟩ => ?_⟩
    refine ⟨e, S1, M1, s1, sl.mono l1, (EndR.bind (rel1 := RepWs I) p1).imp fun u H2 ⟨y, S2, M2, l2, s2, r2, p2⟩ => ?_⟩
    exact p2.here s2 (.cons (r1.mono l2) r2)
theorem rd_args {I : Inf} {α β : Type} {rel : List Addr → Hp → α → β → Prop} {σ : L2.St} {H : Hp} {Q : β → Hp → Prop} {f : List W → Sto → R α} {P : List V → Hp → Prop}
    (h : ∃ (env : Env) (S : Sto) (M : List Addr), Sim I S M H ∧ Slots I M (mask S M H) env σ ∧ EndR I S M H rel Q (fun cls dd H' => w cls dd σ H') ((dr env S).bind fun x S1 => f x S1))
    (k : ∀ (x : List W) (v : List V) (env : Env) (S : Sto) (M : List Addr) (H : Hp), Sim I S M H → Slots I M (mask S M H) env σ → RepWs I M (mask S M H) x v → EndR I S M H rel Q (fun cls dd H' => w cls dd σ H') (f x S) → P v H) :
    rdA I w dr σ H P := by
  obtain ⟨e, S, M, sim, sl, p⟩ := h
  exact ⟨e, S, M, sim, sl, (EndR.bind (rel1 := RepWs I) p).imp fun v H1 ⟨x, S1, M1, l1, s1, r1, p1⟩ => k x v e S1 M1 H1 s1 (sl.mono l1) r1 p1⟩
theorem plainL_rep {I : Inf} {M : List Addr} {H : Hp} : ∀ {ws : List W} {vs : List V} {xs : List D}, RepWs I M H ws vs → plainL ws = some xs → Reps I H xs vs
  | [], _, xs, .nil, e => by
    unfold plainL at e
    cases e
    exact .nil
  | .d x :: r, _, xs, .cons h t, e => by
    unfold plainL at e
    split at e
    · rename_i ys q
      cases e
      exact .cons h (plainL_rep t q)
    · cases e
  | .c _ :: _, _, xs, .cons _ _, e => by
    unfold plainL at e
    cases e
theorem plainL_len : ∀ {ws : List W} {xs : List D}, plainL ws = some xs → xs.length = ws.length
  | [], xs, e => by
    unfold plainL at e
    cases e
    rfl
  | .d x :: r, xs, e => by
    unfold plainL at e
    split at e
    · rename_i ys q
      cases e
      simp [plainL_len q]
    · cases e
  | .c _ :: _, xs, e => by
    unfold plainL at e
    cases e
/-- a new thing is data -/
theorem new_d {I : Inf} {S : Sto} {M : List Addr} {H : Hp} {Q : VK} {E : XK} {x : D} {o : HO} {p : Addr} (h : EndR I S M H (RepW I) Q E (.ok (.d x) S)) (s : Sim I S M H) (np : H p = none)
    (r : ∀ H', H' p = some o → Ex (mask S M H) H' → Rep I H' x (.ref p)) : Q (.ref p) (upd H p o) := by
  obtain ⟨s', l⟩ := s.new (o := o) np
  exact h (.ref p) (upd H p o) M l s' (r _ (mask_new s np) l.ex)
theorem sx_tup {I : Inf} {x1 : Nat} (h : PA X es (rdA I w dr)) : PE X (.Tuple es x1 pos) (rdE I w (dTup dr)) :=
  PE_imp (pe_tup h) fun σ H Q q => rd_args q fun ws vs e S M H s sl r p => by
    split at p
    · rename_i xs hx
      have rr := plainL_rep r hx
      split at p
      · rename_i hl
        refine ⟨by rw [← rr.len]; exact hl, fun a na => new_d p s na fun H' ha ex => .tup (.inl (.inl ha)) (rr.mono ex)⟩
      · exact p.elim
    · exact p.elim
theorem sx_lst {I : Inf} (h : PA X es (rdA I w dr)) : PE X (.List es pos) (rdE I w (dLst dr)) :=
  PE_imp (pe_lst h) fun σ H Q q => rd_args q fun ws vs e S M H s sl r p => by
    split at p
    · rename_i xs hx
      have rr := plainL_rep r hx
      split at p
      · rename_i hl
        refine ⟨by rw [← rr.len]; exact hl, fun a na => new_d p s na fun H' ha ex => .lst ha (rr.mono ex)⟩
      · exact p.elim
    · exact p.elim
theorem low_of {I : Inf} {S : Sto} {M : List Addr} {H H' : Hp} {w : W} {v : V} (s : Sim I S M H) (r : RepW I M H' w v) : w.low S.length := by
  cases w with
  | d x => trivial
  | c i =>
    obtain ⟨a, e, _⟩ := r
    show i < S.length
    rw [← s.len]
    exact (List.getElem?_eq_some_iff.mp e).1
theorem lows_of {I : Inf} {S : Sto} {M : List Addr} {H H' : Hp} {ws : List W} {vs : List V} (s : Sim I S M H) (r : RepWs I M H' ws vs) : ∀ w ∈ ws, w.low S.length := by
  induction r with
  | nil => intro w m; cases m
  | cons r t ih =>
    intro w m
    rcases List.mem_cons.mp m with rfl | m
    · exact low_of s r
    · exact ih w m
theorem new_c {I : Inf} {S : Sto} {M : List Addr} {H : Hp} {Q : VK} {E : XK} {c : Ce} {o : HO} {p : Addr} (h : EndR I S M H (RepW I) Q E (.ok (.c S.length) (S ++ [c]))) (s : Sim I S M H) (np : H p = none) (lo : c.low S.length)
    (hc : CeAt I M (mask S M H) (some o) c) (hd : c ≠ .dead) : Q (.ref p) (upd H p o) := by
  obtain ⟨s', l⟩ := s.newC np lo hc hd
  refine h (.ref p) (upd H p o) _ l s' ⟨p, ?_, rfl⟩
  rw [List.getElem?_append_right (by rw [s.len]; exact Nat.le_refl _), s.len, Nat.sub_self]
  rfl
theorem sx_lstC {I : Inf} (h : PA X es (rdA I w dr)) : PE X (.List es pos) (rdE I w (dLstC dr)) :=
  PE_imp (pe_lst h) fun σ H Q q => rd_args q fun ws vs e S M H s sl r p => by
    split at p
    · rename_i hl
      refine ⟨by rw [← Paired.length r]; exact hl, fun a na => new_c p s na (lows_of s r) ⟨vs, rfl, r⟩ (by intro z; cases z)⟩
    · exact p.elim
theorem sx_frz {I : Inf} (h : PE X a (rdE I w da)) : PE X a (rdE I w (dFrz da)) :=
  PE_imp h fun σ H Q q => rd_one q fun x v e S M H s sl r p => by
    cases x with
    | d x => exact p.here s r
    | c i =>
      dsimp only [frz] at p
      split at p
      · rename_i ws hc
        split at p
        · rename_i xs hx
          obtain ⟨a, ea, rfl⟩ := r
          obtain ⟨vs, ho, rw'⟩ := s.cell i _ a hc ea
          obtain ⟨s', l⟩ := s.kill hc
          refine p (.ref a) H M l s' (.lst ?_ ((plainL_rep rw' hx).mono l.ex))
          rw [mask_dead s hc ea]
          exact ho
        · exact p.elim
      · exact p.elim
end
end Py

/-! Py4: operators by values, calls of built-in functions. -/
namespace Py
open PySem PySem.Spec PyProof.Rows L2
/-! ints -/
@[simp] def opSub : W → W → Sto → R W
  | .d (.int i), .d (.int j), S => .ok (.d (.int (i - j))) S
  | _, _, _ => .bad
instance (i j : Int) : Decidable (IntMulOk i j) := by unfold IntMulOk; infer_instance
@[simp] def opMul : W → W → Sto → R W
  | .d (.int i), .d (.int j), S => if IntMulOk i j then .ok (.d (.int (i * j))) S else .bad
  | _, _, _ => .bad
@[simp] def opDiv : W → W → Sto → R W
  | .d (.int i), .d (.int j), S => if j ≠ 0 ∧ Builtin.divisionGoesByPylong i j = false then .ok (.d (.int (i.fdiv j))) S else .bad
  | _, _, _ => .bad
@[simp] def opMod : W → W → Sto → R W
  | .d (.int i), .d (.int j), S => if j ≠ 0 then .ok (.d (.int (i.fmod j))) S else .bad
  | _, _, _ => .bad
@[simp] def opPow : W → W → Sto → R W
  | .d (.int i), .d (.int j), S => if 0 ≤ j ∧ j ≤ 1000000 ∧ i.natAbs < 2 ^ 64 then .ok (.d (.int (i ^ j.toNat))) S else .bad
  | _, _, _ => .bad
@[simp] def opNeg : W → Sto → R W
  | .d (.int i), S => .ok (.d (.int (-i))) S
  | _, _ => .bad
/-- the lists that + takes -/
@[simp] def lstOf : W → Sto → Option (List D)
  | .d (.lst xs), _ => some xs
  | .c i, S => match S[i]? with
    | some (.lst ws) => plainL ws
    | _ => none
  | _, _ => none
@[simp] def opAdd : W → W → Sto → R W
  | .d (.int i), .d (.int j), S => .ok (.d (.int (i + j))) S
  | .d (.str i), .d (.str j), S => if i.length + j.length ≤ sizeLine then .ok (.d (.str (i ++ j))) S else .bad
  | .d (.tup xs), .d (.tup ys), S => if xs.length + ys.length ≤ sizeLine then .ok (.d (.tup (xs ++ ys))) S else .bad
  | x, y, S => match lstOf x S, lstOf y S with
    | some xs, some ys => if xs.length + ys.length ≤ sizeLine then .ok (.d (.lst (xs ++ ys))) S else .bad
    | _, _ => .bad
/-! comparisons of scalars -/
@[simp] def eqS : D → D → Option Bool
  | .non, .non => some true
  | .non, .int _ => some false
  | .int _, .non => some false
  | .non, .bl _ => some false
  | .bl _, .non => some false
  | .non, .str _ => some false
  | .str _, .non => some false
  | .int i, .int j => some (decide (i = j))
  | .bl i, .bl j => some (decide (i = j))
  | .str i, .str j => some (decide (i = j))
  | .int _, .str _ => some false
  | .str _, .int _ => some false
  | .bl _, .str _ => some false
  | .str _, .bl _ => some false
  | _, _ => none
@[simp] def opEqS : W → W → Sto → R W
  | .d x, .d y, S => match eqS x y with
    | some b => .ok (.d (.bl b)) S
    | none => .bad
  | _, _, _ => .bad
@[simp] def opNeS : W → W → Sto → R W
  | .d x, .d y, S => match eqS x y with
    | some b => .ok (.d (.bl (!b))) S
    | none => .bad
  | _, _, _ => .bad
@[simp] def opLt : W → W → Sto → R W
  | .d (.int i), .d (.int j), S => .ok (.d (.bl (decide (i < j)))) S
  | .d (.str i), .d (.str j), S => .ok (.d (.bl (decide (i.cps.toList < j.cps.toList)))) S
  | _, _, _ => .bad
@[simp] def opLe : W → W → Sto → R W
  | .d (.int i), .d (.int j), S => .ok (.d (.bl (decide (i ≤ j)))) S
  | _, _, _ => .bad
@[simp] def opGt : W → W → Sto → R W
  | .d (.int i), .d (.int j), S => .ok (.d (.bl (decide (j < i)))) S
  | _, _, _ => .bad
@[simp] def opGe : W → W → Sto → R W
  | .d (.int i), .d (.int j), S => .ok (.d (.bl (decide (j ≤ i)))) S
  | _, _, _ => .bad
@[simp] def isN : W → Bool
  | .d .non => true
  | _ => false
@[simp] def opIs : W → W → Sto → R W
  | x, .d .non, S => .ok (.d (.bl (isN x))) S
  | _, _, _ => .bad
@[simp] def opIsNot : W → W → Sto → R W
  | x, .d .non, S => .ok (.d (.bl (!isN x))) S
  | _, _, _ => .bad
section
variable {X : Cx} {I : Inf}
/-- an operation on two ints -/
theorem or_int {f : Value → Value → Sem Value} {g : W → W → Sto → R W} {C : Int → Int → Prop} {h : Int → Int → D} {hv : Int → Int → V} (hr : ∀ H i j, Rep I H (h i j) (hv i j)) (o : OpR X f (rI C fun i j => hv i j))
    (hg : ∀ x y S, g x y S = .bad ∨ ∃ i j, x = .d (.int i) ∧ y = .d (.int j) ∧ (g x y S = .bad ∨ (C i j ∧ g x y S = .ok (.d (h i j)) S))) : OpR X f (rdOp I g) := by
  intro pins s σ H v u ov ou Q In rv ru hh
  obtain ⟨x, y, S, M, sim, rx, ry, p⟩ := hh
  rcases hg x y S with e | ⟨i, j, rfl, rfl, e⟩
  · rw [e] at p
    exact p.elim
  · cases rx
    cases ry
    rcases e with e | ⟨hc, e⟩
    · rw [e] at p
      exact p.elim
    · rw [e] at p
      exact o pins s σ H _ _ ov ou Q In rv ru ⟨i, j, rfl, rfl, hc, p.here sim (hr _ i j)⟩
theorem rI_of {X : Cx} {f : Value → Value → Sem Value} {g : Int → Int → V} (h : OpR X f (rI0 g)) : OpR X f (rI (fun _ _ => True) g) := fun pins s σ H x y v u Q I rx ry ⟨i, j, a, b, _, q⟩ => h pins s σ H x y v u Q I rx ry ⟨i, j, a, b, q⟩
theorem o_sub : OpR X (binaryOp .Sub) (rdOp I opSub) := or_int (C := fun _ _ => True) (h := fun i j => .int (i - j)) (fun _ i j => .int _) (rI_of op_sub) fun x y S => by
  unfold opSub
  split
  · exact .inr ⟨_, _, rfl, rfl, .inr ⟨trivial, rfl⟩⟩
  · exact .inl rfl
theorem o_mul : OpR X (binaryOp .Mult) (rdOp I opMul) := or_int (C := IntMulOk) (h := fun i j => .int (i * j)) (fun _ i j => .int _) (opI fun _ _ _ _ _ _ _ hc q => mul_int q hc) fun x y S => by
  unfold opMul
  split
  · refine .inr ⟨_, _, rfl, rfl, ?_⟩
    split
    · exact .inr ⟨by assumption, rfl⟩
    · exact .inl rfl
  · exact .inl rfl
theorem o_div : OpR X (binaryOp .FloorDiv) (rdOp I opDiv) := or_int (C := fun i j => j ≠ 0 ∧ Builtin.divisionGoesByPylong i j = false) (h := fun i j => .int (i.fdiv j)) (fun _ i j => .int _) (opI fun _ _ _ _ _ _ _ hc q => floordiv_int hc.1 q (.inl hc.2)) fun x y S => by
  unfold opDiv
  split
  · refine .inr ⟨_, _, rfl, rfl, ?_⟩
    split
    · exact .inr ⟨by assumption, rfl⟩
    · exact .inl rfl
  · exact .inl rfl
theorem o_mod : OpR X (binaryOp .Mod) (rdOp I opMod) := or_int (C := fun _ j => j ≠ 0) (h := fun i j => .int (i.fmod j)) (fun _ i j => .int _) op_modN fun x y S => by
  unfold opMod
  split
  · refine .inr ⟨_, _, rfl, rfl, ?_⟩
    split
    · exact .inr ⟨by assumption, rfl⟩
    · exact .inl rfl
  · exact .inl rfl
theorem o_pow : OpR X (binaryOp .Pow) (rdOp I opPow) := or_int (C := CPow) (h := fun i j => .int (i ^ j.toNat)) (fun _ i j => .int _) op_pow fun x y S => by
  unfold opPow
  split
  · refine .inr ⟨_, _, rfl, rfl, ?_⟩
    split
    · exact .inr ⟨by assumption, rfl⟩
    · exact .inl rfl
  · exact .inl rfl
theorem u_neg : UnR X (unaryOp .USub) (rdUn I opNeg) := by
  intro pins s σ H v ov Q In rv hh
  obtain ⟨x, S, M, sim, rx, p⟩ := hh
  unfold opNeg at p
  split at p
  · cases rx
    exact un_neg pins s σ H _ ov Q In rv ⟨_, rfl, p.here sim (.int _)⟩
  · exact p.elim
theorem lstOf_at {S : Sto} {M : List Addr} {H : Hp} {x : W} {v : V} {xs : List D} (sim : Sim I S M H) (r : RepW I M (mask S M H) x v) (e : lstOf x S = some xs) : ∃ a vs, v = .ref a ∧ H a = some (.lst vs) ∧ Reps I (mask S M H) xs vs := by
  unfold lstOf at e
  split at e
  · cases e
    cases r with
    | lst h q => exact ⟨_, _, rfl, mask_ex _ _ h, q⟩
  · split at e
    · rename_i ws hc
      obtain ⟨a, ea, rfl⟩ := r
      obtain ⟨vs, ho, q⟩ := sim.cell _ _ a hc ea
      exact ⟨a, vs, rfl, ho, plainL_rep q e⟩
    · cases e
  · cases e
theorem o_add : OpR X (binaryOp .Add) (rdOp ⟨X.K, I.G, I.fl⟩ opAdd) := by
  intro pins s σ H v u ov ou Q In rv ru hh
  obtain ⟨x, y, S, M, sim, rx, ry, p⟩ := hh
  unfold opAdd at p
  split at p
  · cases rx
    cases ry
    exact op_add pins s σ H _ _ ov ou Q In rv ru ⟨_, _, rfl, rfl, p.here sim (.int _)⟩
  · split at p
    · cases rx
      cases ry
      exact op_add_str pins s σ H _ _ ov ou Q In rv ru ⟨_, _, rfl, rfl, by assumption, p.here sim (.str _)⟩
    · exact p.elim
  · split at p
    · rename_i xs ys S' hl
      cases rx with
      | tup h1 r1 =>
      cases ry with
      | tup h2 r2 =>
      refine op_catA pins s σ H _ _ ov ou Q In rv ru ⟨_, _, _, _, rfl, rfl, ex_t mask_ex h1, ex_t mask_ex h2, by rw [← r1.len, ← r2.len]; exact hl, fun e => ?_, fun e e' => ?_, fun _ _ a na => new_d p sim na fun H' ha ex => .tup (.inl (.inl ha)) ((r1.append r2).mono ex)⟩
      · subst e
        cases r1
        exact p.here sim (.tup h2 r2)
      · subst e'
        cases r2
        rw [List.append_nil] at p
        exact p.here sim (.tup h1 r1)
    · exact p.elim
  · split at p
    · rename_i xs ys e1 e2
      split at p
      · rename_i hl
        obtain ⟨a, vs, rfl, h1, r1⟩ := lstOf_at sim rx e1
        obtain ⟨b, us, rfl, h2, r2⟩ := lstOf_at sim ry e2
        exact op_cat pins s σ H _ _ ov ou Q In rv ru ⟨a, b, vs, us, rfl, rfl, h1, h2, by rw [← r1.len, ← r2.len]; exact hl, fun q nq => new_d p sim nq fun H' ha ex => .lst ha ((r1.append r2).mono ex)⟩
      · exact p.elim
    · exact p.elim
theorem eqS_rep {H : Hp} {x y : D} {v u : V} {b : Bool} (rx : Rep I H x v) (ry : Rep I H y u) (e : eqS x y = some b) : scal v u = true ∧ b = decide (v = u) := by
  unfold eqS at e
  split at e <;> cases e <;> cases rx <;> cases ry <;> refine ⟨rfl, ?_⟩ <;> simp
theorem o_eq : OpR X (compareOp .Eq) (rdOp I opEqS) := by
  intro pins s σ H v u ov ou Q In rv ru hh
  obtain ⟨x, y, S, M, sim, rx, ry, p⟩ := hh
  unfold opEqS at p
  split at p
  · split at p
    · rename_i b e
      obtain ⟨h1, h2⟩ := eqS_rep rx ry e
      subst h2
      exact op_eq pins s σ H _ _ ov ou Q In rv ru ⟨h1, p.here sim (.bl _)⟩
    · exact p.elim
  · exact p.elim
theorem o_ne : OpR X (compareOp .NotEq) (rdOp I opNeS) := by
  intro pins s σ H v u ov ou Q In rv ru hh
  obtain ⟨x, y, S, M, sim, rx, ry, p⟩ := hh
  unfold opNeS at p
  split at p
  · split at p
    · rename_i b e
      obtain ⟨h1, h2⟩ := eqS_rep rx ry e
      subst h2
      exact op_ne pins s σ H _ _ ov ou Q In rv ru ⟨h1, p.here sim (.bl _)⟩
    · exact p.elim
  · exact p.elim
theorem o_lt : OpR X (compareOp .Lt) (rdOp I opLt) := by
  intro pins s σ H v u ov ou Q In rv ru hh
  obtain ⟨x, y, S, M, sim, rx, ry, p⟩ := hh
  unfold opLt at p
  split at p
  · cases rx
    cases ry
    exact op_lt pins s σ H _ _ ov ou Q In rv ru ⟨_, _, rfl, rfl, p.here sim (.bl _)⟩
  · cases rx
    cases ry
    exact op_lt_str pins s σ H _ _ ov ou Q In rv ru ⟨_, _, rfl, rfl, p.here sim (.bl _)⟩
  · exact p.elim
theorem o_le : OpR X (compareOp .LtE) (rdOp I opLe) := or_int (C := fun _ _ => True) (h := fun i j => .bl (decide (i ≤ j))) (fun _ i j => .bl _) (rI_of op_le) fun x y S => by
  unfold opLe
  split
  · exact .inr ⟨_, _, rfl, rfl, .inr ⟨trivial, rfl⟩⟩
  · exact .inl rfl
theorem o_gt : OpR X (compareOp .Gt) (rdOp I opGt) := or_int (C := fun _ _ => True) (h := fun i j => .bl (decide (j < i))) (fun _ i j => .bl _) (rI_of op_gt) fun x y S => by
  unfold opGt
  split
  · exact .inr ⟨_, _, rfl, rfl, .inr ⟨trivial, rfl⟩⟩
  · exact .inl rfl
theorem o_ge : OpR X (compareOp .GtE) (rdOp I opGe) := or_int (C := fun _ _ => True) (h := fun i j => .bl (decide (j ≤ i))) (fun _ i j => .bl _) (rI_of op_ge) fun x y S => by
  unfold opGe
  split
  · exact .inr ⟨_, _, rfl, rfl, .inr ⟨trivial, rfl⟩⟩
  · exact .inl rfl
theorem isN_rep {M : List Addr} {H : Hp} {x : W} {v : V} (r : RepW I M H x v) : isN x = decide (v = .non) := by
  cases x with
  | c i => obtain ⟨a, _, rfl⟩ := r; rfl
  | d x => cases r <;> rfl
theorem o_is : OpR X (compareOp .Is) (rdOp I opIs) := by
  intro pins s σ H v u ov ou Q In rv ru hh
  obtain ⟨x, y, S, M, sim, rx, ry, p⟩ := hh
  unfold opIs at p
  split at p
  · cases ry
    rw [isN_rep rx] at p
    exact op_isN pins s σ H _ _ ov ou Q In rv ru ⟨rfl, p.here sim (.bl _)⟩
  · exact p.elim
theorem o_isnot : OpR X (compareOp .IsNot) (rdOp I opIsNot) := by
  intro pins s σ H v u ov ou Q In rv ru hh
  obtain ⟨x, y, S, M, sim, rx, ry, p⟩ := hh
  unfold opIsNot at p
  split at p
  · cases ry
    rw [isN_rep rx] at p
    exact op_notN pins s σ H _ _ ov ou Q In rv ru ⟨rfl, p.here sim (.bl _)⟩
  · exact p.elim
end
/-! ### subscripts -/
section
variable {J : Jn} {X : Cx} {w : WX} {a b : Expr} {es : List Expr} {da db : DE} {dr : DA} {pos : Pos} {I : Inf}
theorem reps_map {M : List Addr} {H : Hp} {xs : List D} {vs : List V} (r : Reps I H xs vs) : RepWs I M H (xs.map W.d) vs := by
  induction xs generalizing vs with
  | nil => cases r; exact .nil
  | cons x xs ih => cases r with | cons r t => exact .cons r (ih t)
theorem seqOf_at {S : Sto} {M : List Addr} {H : Hp} {x : W} {v : V} {ws : List W} (sim : Sim I S M H) (r : RepW I M (mask S M H) x v) (e : seqOf x S = some ws) : ∃ a vs, v = .ref a ∧ (SqL I.K H a vs ∨ SqT I.K H a vs) ∧ RepWs I M (mask S M H) ws vs := by
  unfold seqOf at e
  split at e
  · cases e
    cases r with
    | tup h q => exact ⟨_, _, rfl, .inr (ex_t mask_ex h), reps_map q⟩
  · cases e
    cases r with
    | lst h q => exact ⟨_, _, rfl, .inl (.inl (.inl (mask_ex _ _ h))), reps_map q⟩
  · cases e
    cases r with
    | lsx h q => exact ⟨_, _, rfl, .inl (ex_l mask_ex h), reps_map q⟩
  · split at e
    · rename_i y i hc
      cases e
      obtain ⟨a, ea, rfl⟩ := r
      obtain ⟨vs, ho, q⟩ := sim.cell _ _ a hc ea
      exact ⟨a, vs, rfl, .inl (.inl (.inl ho)), q⟩
    · cases e
  · cases e
theorem atI_rep {M : List Addr} {H : Hp} {ws : List W} {vs : List V} {i : Int} {x : W} (r : RepWs I M H ws vs) (e : atI ws i = some x) : ∃ v, atI vs i = some v ∧ RepW I M H x v := by
  unfold atI at e ⊢
  rw [← Paired.length r]
  cases q : ixN ws.length i with
  | none => rw [q] at e; cases e
  | some j =>
    rw [q] at e
    have e : ws[j]? = some x := e
    show ∃ v, vs[j]? = some v ∧ RepW I M H x v
    exact paired_get r e
theorem ix_all : IxR X (rdOp ⟨X.K, I.G, I.fl⟩ opIx) := by
  intro value slice pins s σ H v u ov ou Q In rv ru hh hs
  obtain ⟨x, y, S, M, sim, rx, ry, p⟩ := hh
  unfold opIx at p
  split at p
  · split at p
    · rename_i hl
      split at p
      · rename_i c hc
        cases rx
        cases ry
        exact ix_str value slice pins s σ H _ _ ov ou Q In rv ru ⟨_, _, c, rfl, rfl, hl, hc, p.here sim (.str _)⟩ hs
      · exact p.elim
    · exact p.elim
  · split at p
    · rename_i ws hw
      split at p
      · rename_i q hq
        cases ry
        obtain ⟨a, vs, rfl, ht, r⟩ := seqOf_at sim rx hw
        obtain ⟨v, hv, rq⟩ := atI_rep r hq
        rcases ht with ht | ht
        · exact ix_list value slice pins s σ H _ _ ov ou Q In rv ru ⟨a, vs, _, v, rfl, rfl, ht, hv, p.here sim rq⟩ hs
        · exact ix_tup value slice pins s σ H _ _ ov ou Q In rv ru ⟨a, vs, _, v, rfl, rfl, ht, hv, p.here sim rq⟩ hs
      · exact p.elim
    · exact p.elim
  · exact p.elim
theorem sx_ix (ha : PE X a (rdE ⟨X.K, I.G, I.fl⟩ w da)) (hb : PE X b (rdE ⟨X.K, I.G, I.fl⟩ w db)) (hs : PlainIx b := by exact fun _ _ => rfl) : PE X (.Subscript a b pos) (rdE ⟨X.K, I.G, I.fl⟩ w (dOp opIx da db)) :=
  PE_imp (pe_ix ix_all ha hb hs) fun _ _ _ => rd_op
end
end Py

/-! Py5: calls of defs, classes, methods; attributes. -/
namespace Py
open PySem PySem.Spec PyProof.Rows L2
/-! ### with the wish at the slots -/
section
variable {X : Cx} {CX : CXT} {k : Nat} {f C : Addr} {fd : FuncData} {ps : List Str} {sp : Sp} {dvs : List V} {ds : List Value} {E : L2.St → XK} {x m : Str} {p pos apos : Pos} {e o : Expr} {es : List Expr} {ta : TE} {t : TA}
theorem pe_call0D (F : FnOk X.prog X.w X.K X.mg X.base CX k f fd ps sp) (hr : Room k X.A) (hg : Gl X x) (hm : X.mg x = some (.ref f)) (hk : PySem.W.keepIn X.K (.ref f) = true) (hb : Binds X.K fd ps ds) (hd : Vals dvs ds) (hx : ∀ σ, PassesAt CX X σ (E σ))
    (hdb : (x == ("__debug__" : Str)) = false := by decide) : PE X (.Call (.Name x p) [] [] pos) (tCallSD sp dvs E tNil) := by
  refine ⟨fun pins s σ H Q I h => ?_⟩
  refine wpAny_Call_Name_kw (ld_glob I hg hm ?_ hdb)
  exact PySem.W.callWith_K0 I.kIn hk (run_fnSD (us := []) F hr hb hd (hx σ) I .nil h)
def tMethD (C : Addr) (m : Str) (sp : Sp) (dvs : List V) (E : L2.St → XK) (ta : TE) (t : TA) : TE := fun σ H Q => ta σ H fun x H1 => ∃ a dx fs, x = .ref a ∧ H1 a = some (.ins C dx fs) ∧ fs.lookup m = none ∧
  t σ H1 fun vs H2 => sp (x :: (vs ++ dvs)) H2 Q (E σ)
theorem pe_methD {pl : Sem Bool} (he : PE X o ta) (c : Cls X.K C) (hm : Meth X.K C m f) (F : FnOk X.prog X.w X.K X.mg X.base CX k f fd ps sp) (hr : Room k X.A) (hb : Binds X.K fd ps ds) (hd : Vals dvs ds) (hx : ∀ σ, PassesAt CX X σ (E σ)) (ha : PA X (e :: es) t)
    (hst : starEach (e :: es) X.env = (false, eval e X.env) :: starEach es X.env := by rfl) (hpl : (backTo pos (starEach es X.env)).any (·.1) = false := by rfl)
    (ht : eval (.Call (.Attribute o m apos) (e :: es) [] pos) X.env = (do
      let ov ← eval o X.env
      standAt apos.atName
      let (f, first) ← holding [ov] (getMethod ov m pl)
      callWith pos f first (backTo pos (starEach (e :: es) X.env)) (backToKw pos (keywordEach [] X.env))) := by rfl) :
    PE X (.Call (.Attribute o m apos) (e :: es) [] pos) (tMethD C m sp dvs E ta t) := by
  refine ⟨fun pins s σ H Q I h => ?_⟩
  refine PySem.W.methodCall_KW (pl := pl) (thn (he.run pins s σ H _ I h) fun u s1 ⟨x, H1, I1, rx, a, dx, fs, ex, ea, l, q⟩ => ?_) ht
  subst ex
  obtain rfl : u = Value.ref a := rx
  refine getmeth_ok I1 ea c hm l ?_
  refine PySem.W.callWith_K (first := [.ref a]) (h₀ := X.base) I.ok.mod.kin hm.kp (thn (ha.run pos pins s1 σ H1 _ I1 q) fun us s2 ⟨vs, H2, I2, r, q2⟩ => ⟨I2.kIn, ?_⟩) hst hpl
  exact run_fnSD (us := .ref a :: us) (vs := .ref a :: vs) F hr hb hd (hx σ) I2 (.cons rfl r) q2
theorem pe_meth0D {pl : Sem Bool} (he : PE X o ta) (c : Cls X.K C) (hm : Meth X.K C m f) (F : FnOk X.prog X.w X.K X.mg X.base CX k f fd ps sp) (hr : Room k X.A) (hb : Binds X.K fd ps ds) (hd : Vals dvs ds) (hx : ∀ σ, PassesAt CX X σ (E σ))
    (ht : eval (.Call (.Attribute o m apos) [] [] pos) X.env = (do
      let ov ← eval o X.env
      standAt apos.atName
      let (f, first) ← holding [ov] (getMethod ov m pl)
      callWith pos f first (backTo pos (starEach [] X.env)) (backToKw pos (keywordEach [] X.env))) := by rfl) :
    PE X (.Call (.Attribute o m apos) [] [] pos) (tMethD C m sp dvs E ta tNil) := by
  refine ⟨fun pins s σ H Q I h => ?_⟩
  refine PySem.W.methodCall_KW (pl := pl) (thn (he.run pins s σ H _ I h) fun u s1 ⟨x, H1, I1, rx, a, dx, fs, ex, ea, l, q⟩ => ?_) ht
  subst ex
  obtain rfl : u = Value.ref a := rx
  refine getmeth_ok I1 ea c hm l ?_
  exact PySem.W.callWith_K0 (first := [.ref a]) I1.kIn hm.kp (run_fnSD (us := [.ref a]) (vs := [.ref a]) F hr hb hd (hx σ) I1 (.cons rfl .nil) q)
/-- C(e, .., k = v, ..) -/
def tMakeK (C : Addr) (n m : Nat) (sp : Sp) (gV : List V → List V → List V) (E : L2.St → XK) (t tk : TA) : TE := fun σ H Q => t σ H fun vs H1 => tk σ H1 fun zs H2 => vs.length = n ∧ zs.length = m ∧
  ∀ x dx, H2 x = none → H2 dx = none → dx ≠ x → sp (gV (.ref x :: vs) zs) (upd (upd H2 dx (.own x)) x (.ins C dx [])) (fun v H3 => v = .non ∧ Q (.ref x) H3) (E σ)
theorem run_makeK {kk n : Nat} {ks : List Str} {g : List Value → List Value → List Value} {gV : List V → List V → List V} {pins : List (Addr × Obj)} {σ : L2.St} {H : Hp} {s : Shared} {Q : VK} {us ws : List Value} {vs zs : List V} (M : Mk X.K C f) (F : FnOk X.prog X.w X.K X.mg X.base CX kk f fd ps sp) (hr : Room (kk + 1) X.A) (hb : KBn X.K fd ps (n + 1) ks g gV)
    (hx : PassesAt CX X σ (E σ)) (I : Inv X pins σ H s) (r : Vals vs us) (rz : Vals zs ws) (l1 : vs.length = n) (l2 : zs.length = ks.length)
    (h : ∀ x dx, H x = none → H dx = none → dx ≠ x → sp (gV (.ref x :: vs) zs) (upd (upd H dx (.own x)) x (.ins C dx [])) (fun v H2 => v = .non ∧ Q (.ref x) H2) (E σ)) :
    wpAny (model X.prog X.w) X.A (call (.ref C) us (ks.zip ws)) (EP X pins σ Q) X.xe s := by
  have hq := h (s.heap.objs.size + 1) s.heap.objs.size (I.hok.fresh (Nat.le_succ _)) (I.hok.fresh (Nat.le_refl _)) (Nat.ne_of_lt (Nat.lt_succ_self _))
  have I2 := Inv.made (C := C) I
  have r2 := hb.rel (show Vals (V.ref (s.heap.objs.size + 1) :: vs) (Value.ref (s.heap.objs.size + 1) :: us) from .cons rfl r) rz
  have e1 : (Value.ref (s.heap.objs.size + 1) :: us).length = n + 1 := by rw [List.length_cons, ← r.length, l1]
  have e2 : ws.length = ks.length := rz.length.symm.trans l2
  refine wpAny_call (make_map (f := f) I.kIn M.makes M.init (beq_iff_eq.mp M.fn) (codeAny_mono (F.run _ X.stack _ _ ⟨Value.ref (s.heap.objs.size + 1) :: us, ks.zip ws⟩ _ _ _ (E σ) (hr.make C us (ks.zip ws))
    (I2.env0.make C us (ks.zip ws)) (hb.to _ _ ws I2.kIn e1 e2) r2 hq) fun r s' hq' => ?_))
  cases r with
  | error e => exact hx pins _ _ e s' I2 hq'
  | ok fl =>
    cases fl with
    | ret u =>
      obtain ⟨v, H', I3, rv, ev, q3⟩ := I2.after hq'
      subst ev
      exact ⟨rv, ⟨V.ref (s.heap.objs.size + 1), H', I3, rfl, q3⟩⟩
    | next => exact hq'.elim
    | brk => exact hq'.elim
    | cont => exact hq'.elim
theorem pe_makeK {kk n : Nat} {ks : List Str} {g : List Value → List Value → List Value} {gV : List V → List V → List V} {kws : List Keyword} {t tk : TA} (M : Mk X.K C f) (F : FnOk X.prog X.w X.K X.mg X.base CX kk f fd ps sp) (hr : Room (kk + 1) X.A) (hg : Gl X x) (hm : X.mg x = some (.ref C)) (hb : KBn X.K fd ps (n + 1) ks g gV) (hx : ∀ σ, PassesAt CX X σ (E σ))
    (ha : PA X (e :: es) t) (hkw : PK X kws tk) (hall : (backToKw pos (keywordEach kws X.env)).all (·.1.isSome) = true := by rfl) (hks : (backToKw pos (keywordEach kws X.env)).filterMap (·.1) = ks := by rfl)
    (hdb : (x == ("__debug__" : Str)) = false := by decide) (he : starEach (e :: es) X.env = (false, eval e X.env) :: starEach es X.env := by rfl)
    (hpl : ((backTo pos (starEach (e :: es) X.env)).any (·.1) || (backToKw pos (keywordEach kws X.env)).any (·.1.isNone)) = false := by rfl) :
    PE X (.Call (.Name x p) (e :: es) kws pos) (tMakeK C n ks.length sp gV E t tk) := by
  refine ⟨fun pins s σ H Q I h => wpAny_Call_Name_kw (ld_glob I hg hm ?_ hdb)⟩
  refine PySem.W.callWith_KW (h₀ := X.base) I.ok.mod.kin M.kp hall (thn (ha.run pos pins s σ H _ I h) fun us s1 ⟨vs, H1, I1, r, q⟩ => ?_) hpl he
  refine thn (hkw.run pos pins s1 σ H1 _ I1 q) fun ws s2 ⟨zs, H2, I2, rz, l1, l2, q2⟩ => ⟨I2.kIn, ?_⟩
  rw [hks]
  exact run_makeK M F hr hb (hx σ) I2 r rz l1 l2 q2
def tMakeD (C : Addr) (sp : Sp) (dvs : List V) (E : L2.St → XK) (t : TA) : TE := fun σ H Q => t σ H fun vs H1 => ∀ x dx, H1 x = none → H1 dx = none → dx ≠ x →
  sp (.ref x :: (vs ++ dvs)) (upd (upd H1 dx (.own x)) x (.ins C dx [])) (fun v H2 => v = .non ∧ Q (.ref x) H2) (E σ)
theorem run_makeD {pins : List (Addr × Obj)} {σ : L2.St} {H : Hp} {s : Shared} {Q : VK} {us : List Value} {vs : List V} (M : Mk X.K C f) (F : FnOk X.prog X.w X.K X.mg X.base CX k f fd ps sp) (hr : Room (k + 1) X.A) (hb : Binds X.K fd ps ds) (hd : Vals dvs ds)
    (hx : PassesAt CX X σ (E σ)) (I : Inv X pins σ H s) (r : Vals vs us)
    (h : ∀ x dx, H x = none → H dx = none → dx ≠ x → sp (.ref x :: (vs ++ dvs)) (upd (upd H dx (.own x)) x (.ins C dx [])) (fun v H2 => v = .non ∧ Q (.ref x) H2) (E σ)) :
    wpAny (model X.prog X.w) X.A (call (.ref C) us) (EP X pins σ Q) X.xe s := by
  have hq := h (s.heap.objs.size + 1) s.heap.objs.size (I.hok.fresh (Nat.le_succ _)) (I.hok.fresh (Nat.le_refl _)) (Nat.ne_of_lt (Nat.lt_succ_self _))
  have I2 := Inv.made (C := C) I
  have r2 : Vals (V.ref (s.heap.objs.size + 1) :: (vs ++ dvs)) (Value.ref (s.heap.objs.size + 1) :: (us ++ ds)) := .cons rfl (r.append hd)
  have hl : (Value.ref (s.heap.objs.size + 1) :: us ++ ds).length = ps.length := by
    have e := r2.length
    rw [F.len _ _ _ _ hq] at e
    exact e.symm
  refine wpAny_call (make_map (f := f) I.kIn M.makes M.init (beq_iff_eq.mp M.fn) (codeAny_mono (F.run _ X.stack _ _ ⟨Value.ref (s.heap.objs.size + 1) :: us, []⟩ (Value.ref (s.heap.objs.size + 1) :: (us ++ ds)) _ _ (E σ) (hr.make C us [])
    (I2.env0.make C us []) (hb _ (Value.ref (s.heap.objs.size + 1) :: us) I2.kIn hl) r2 hq) fun r s' hq' => ?_))
  cases r with
  | error e => exact hx pins _ _ e s' I2 hq'
  | ok fl =>
    cases fl with
    | ret u =>
      obtain ⟨v, H', I3, rv, ev, q3⟩ := I2.after hq'
      subst ev
      exact ⟨rv, ⟨V.ref (s.heap.objs.size + 1), H', I3, rfl, q3⟩⟩
    | next => exact False.elim hq'
    | brk => exact False.elim hq'
    | cont => exact False.elim hq'
theorem pe_makeD (M : Mk X.K C f) (F : FnOk X.prog X.w X.K X.mg X.base CX k f fd ps sp) (hr : Room (k + 1) X.A) (hg : Gl X x) (hm : X.mg x = some (.ref C)) (hb : Binds X.K fd ps ds) (hd : Vals dvs ds) (hx : ∀ σ, PassesAt CX X σ (E σ))
    (ha : PA X (e :: es) t) (hdb : (x == ("__debug__" : Str)) = false := by decide) (he : starEach (e :: es) X.env = (false, eval e X.env) :: starEach es X.env := by rfl) (hpl : (backTo pos (starEach es X.env)).any (·.1) = false := by rfl) :
    PE X (.Call (.Name x p) (e :: es) [] pos) (tMakeD C sp dvs E t) := by
  refine ⟨fun pins s σ H Q I h => ?_⟩
  refine wpAny_Call_Name_kw (ld_glob I hg hm ?_ hdb)
  refine PySem.W.callWith_K (h₀ := X.base) I.ok.mod.kin M.kp (thn (ha.run pos pins s σ H _ I h) fun us s1 ⟨vs, H1, I1, r, q⟩ => ⟨I1.kIn, ?_⟩) he hpl
  exact run_makeD M F hr hb hd (hx σ) I1 r q
theorem pe_make0D (M : Mk X.K C f) (F : FnOk X.prog X.w X.K X.mg X.base CX k f fd ps sp) (hr : Room (k + 1) X.A) (hg : Gl X x) (hm : X.mg x = some (.ref C)) (hb : Binds X.K fd ps ds) (hd : Vals dvs ds) (hx : ∀ σ, PassesAt CX X σ (E σ))
    (hdb : (x == ("__debug__" : Str)) = false := by decide) : PE X (.Call (.Name x p) [] [] pos) (tMakeD C sp dvs E tNil) := by
  refine ⟨fun pins s σ H Q I h => ?_⟩
  refine wpAny_Call_Name_kw (ld_glob I hg hm ?_ hdb)
  exact PySem.W.callWith_K0 I.kIn M.kp (run_makeD (us := []) M F hr hb hd (hx σ) I .nil h)
end
/-! ### how a def ends -/
@[simp] def fin (n : Nat) : R W → R W
  | .ok (.d x) S => .ok (.d x) (S.take n)
  | .ok (.c i) S => if i < n then .ok (.c i) (S.take n) else .ok (.c i) S
  | .exc c x S => .exc c x (S.take n)
  | .bad => .bad
@[simp] def ofRS : RS → R W
  | .nx _ S => .ok (.d .non) S
  | .rt w S => .ok w S
  | .exc c x _ S => .exc c x S
  | _ => .bad
def runDef (N ar : Nat) (body : DS) (ws : List W) (S : Sto) : R W := if ws.length = ar then fin S.length (ofRS (body (ws.map some ++ List.replicate (N - ws.length) none) S)) else .bad
theorem cut_le {I : Inf} {S S' : Sto} {M M' : List Addr} {H H' : Hp} (s : Sim I S M H) (l : Le S M H S' M' H') (s' : Sim I S' M' H') : Sim I (S'.take S.length) M H' ∧ Le S M H (S'.take S.length) M H' ∧ M'.take S.length = M := by
  obtain ⟨c1, c2⟩ := s'.cut (n := S.length)
  have e : M'.take S.length = M := by
    obtain ⟨t, rfl⟩ := l.pre
    rw [← s.len, List.take_left]
  rw [e] at c1 c2
  exact ⟨c1, ⟨List.prefix_refl _, l.ex.trans c2⟩, e⟩
theorem fin_end {I : Inf} {S : Sto} {M : List Addr} {H : Hp} {Q : VK} {E : XK} {r : R W} (s : Sim I S M H) (h : EndR I S M H (RepW I) Q E (fin S.length r)) : EndR I S M H (RepW I) Q E r := by
  cases r with
  | bad => exact h
  | exc c x S' =>
    intro cls dd H' M' l s' rx
    obtain ⟨a, b, e⟩ := cut_le s l s'
    refine h cls dd H' M b a (rx.mono ?_)
    have := (s'.cut (n := S.length)).2
    rw [e] at this
    exact this
  | ok w S' =>
    intro v H' M' l s' rw'
    obtain ⟨a, b, e⟩ := cut_le s l s'
    have ex := (s'.cut (n := S.length)).2
    rw [e] at ex
    cases w with
    | d x => exact h v H' M b a (Rep.mono ex rw')
    | c i =>
      dsimp only [fin] at h
      split at h
      · rename_i hi
        obtain ⟨q, eq, ev⟩ := rw'
        refine h v H' M b a ⟨q, ?_, ev⟩
        rw [← e, List.getElem?_take, if_pos hi]
        exact eq
      · exact h v H' M' l s' rw'
/-- the slots at the entry -/
theorem slots_start {I : Inf} {M : List Addr} {H : Hp} {N : List Str} {ws : List W} {vs : List V} (r : RepWs I M H ws vs) : Slots I M H (ws.map some ++ List.replicate (N.length - ws.length) none) (L2.start N vs) := by
  have hl := Paired.length r
  refine ⟨by unfold L2.start; simp [hl], fun i w e => ?_⟩
  unfold L2.start
  by_cases hi : i < ws.length
  · rw [List.getElem?_append_left (by simpa using hi), List.getElem?_map] at e
    rw [List.getElem?_append_left (by simpa [← hl] using hi), List.getElem?_map]
    cases q : ws[i]? with
    | none => rw [q] at e; cases e
    | some u =>
      rw [q] at e
      have : u = w := by simpa using e
      subst this
      obtain ⟨v, e1, e2⟩ := paired_get r q
      exact ⟨v, by rw [e1]; rfl, e2⟩
  · rw [List.getElem?_append_right (by simpa using hi)] at e
    rw [List.getElem?_replicate] at e
    split at e
    · simp at e
    · cases e
/-- THE RULE for a def: by its body's reading -/
theorem def_ok {P : Program} {w : World} {K : PySem.W.Frag} {mg : Str → Option Value} {base : Heap} {J : Jn} {xn qual : Str} {st : Stmt} {fa : Addr} {fd : FuncData} {N ps : List Str} {k f n : Nat} {F : FnTab} {body : DS} (hF : Fun K xn qual st fa fd) (S : FnScope N ps (defScope st)) (hn : ps.length = n)
    (he : ∀ ws S, F f ws S = runDef N.length n body ws S)
    (hb : ∀ (cdv : Value) (A : Around) (outer : List PySem.Env) (s : Shared) (H : Hp) (E : XK), Room k (A.deeper (envOfC qual (defScope st) s.heap.objs.size fa cdv)) →
      PSs (cxOf (L2.CX P w) P w K mg base N qual (defScope st) fa cdv A outer s H E) (defBody st) (rdS (J.inf K) (fun cls dd _ H' => E cls dd H') body)) : FnOk P w K mg base (L2.CX P w) (k + 1) fa fd ps (spOf (J.inf K) F f n) := by
  refine hF.okX S (fun vs H Q E h => by rw [hn]; exact h.1) (fun cdv A outer s H vs Q E hr h => ⟨_, hb cdv A outer s H E hr, ?_⟩)
  obtain ⟨hl, ws, St, M, sim, r, p⟩ := h
  rw [he] at p
  unfold runDef at p
  split at p
  · have p := fin_end sim p
    refine ⟨_, St, M, sim, slots_start r, ?_⟩
    generalize body (List.map some ws ++ List.replicate (N.length - ws.length) none) St = rs at p ⊢
    cases rs with
    | nx e S' => exact fun σ' H' M' l s' _ => p .non H' M' l s' .non
    | rt w S' => exact fun v H' M' l s' r' => p v H' M' l s' r'
    | exc c x e S' => exact fun cls dd σ' H' M' l s' _ r' => p cls dd H' M' l s' r'
    | bk e S' => exact p.elim
    | ct e S' => exact p.elim
    | bad => exact p.elim
  · exact p.elim
theorem def_okD {P : Program} {w : World} {K : PySem.W.Frag} {mg : Str → Option Value} {base : Heap} {J : Jn} {xn qual : Str} {params : Arguments} {bd : List Stmt} {sc : Scope} {dvs : List V} {kws : List (Str × V)} {fa : Addr} {fd : FuncData} {N ps : List Str} {k f n : Nat} {F : FnTab} {body : DS} (hF : FunD K xn qual params bd sc dvs kws fa fd) (S : FnScope N ps sc) (hn : ps.length = n)
    (he : ∀ ws S, F f ws S = runDef N.length n body ws S)
    (hb : ∀ (cdv : Value) (A : Around) (outer : List PySem.Env) (s : Shared) (H : Hp) (E : XK), Room k (A.deeper (envOfC qual sc s.heap.objs.size fa cdv)) →
      PSs (cxOf (L2.CX P w) P w K mg base N qual sc fa cdv A outer s H E) bd (rdS (J.inf K) (fun cls dd _ H' => E cls dd H') body)) : FnOk P w K mg base (L2.CX P w) (k + 1) fa fd ps (spOf (J.inf K) F f n) := by
  refine hF.ok S (fun vs H Q E h => by rw [hn]; exact h.1) (fun cdv A outer s H vs Q E hr h => ⟨_, hb cdv A outer s H E hr, ?_⟩)
  obtain ⟨hl, ws, St, M, sim, r, p⟩ := h
  rw [he] at p
  unfold runDef at p
  split at p
  · have p := fin_end sim p
    refine ⟨_, St, M, sim, slots_start r, ?_⟩
    generalize body (List.map some ws ++ List.replicate (N.length - ws.length) none) St = rs at p ⊢
    cases rs with
    | nx e S' => exact fun σ' H' M' l s' _ => p .non H' M' l s' .non
    | rt w S' => exact fun v H' M' l s' r' => p v H' M' l s' r'
    | exc c x e S' => exact fun cls dd σ' H' M' l s' _ r' => p cls dd H' M' l s' r'
    | bk e S' => exact p.elim
    | ct e S' => exact p.elim
    | bad => exact p.elim
  · exact p.elim
/-! ### calls -/
@[simp] def dCall (F : FnTab) (f n : Nat) (a : DA) : DE := fun e S => (a e S).bind fun ws S1 => if ws.length = n then F f ws S1 else .bad
/-- an instance of the class c -/
@[simp] def isC (c : Nat) : W → Sto → Bool
  | .d (.obj c' _), _ => c' == c
  | .c i, S => match S[i]? with
    | some (.ins c' _) => c' == c
    | _ => false
  | _, _ => false
@[simp] def dMeth (F : FnTab) (c f n : Nat) (o : DE) (a : DA) : DE := fun e S => (o e S).bind fun x S1 => if isC c x S1 = true then ((a e S1).bind fun ws S2 => if ws.length + 1 = n then F f (x :: ws) S2 else .bad) else .bad
/-- a new instance that never changes behind its __init__ (nf fields) -/
@[simp] def mkF (Fi : FnTab) (c f n nf : Nat) (ws : List W) (S : Sto) : R W := if ws.length + 1 = n then (match Fi f (.c S.length :: ws) (S ++ [.ins c []]) with
  | .ok (.d .non) S' => match S'[S.length]? with
    | some (.ins c' xs) => match plainL xs with
      | some ds => if c' = c ∧ ds.length = nf then .ok (.d (.obj c ds)) (S'.take S.length) else .bad
      | none => .bad
    | _ => .bad
  | .exc e x S' => .exc e x (S'.take S.length)
  | _ => .bad) else .bad
/-- a new instance that is a cell -/
@[simp] def mkC (Fi : FnTab) (c f n : Nat) (ws : List W) (S : Sto) : R W := if ws.length + 1 = n then (match Fi f (.c S.length :: ws) (S ++ [.ins c []]) with
  | .ok (.d .non) S' => .ok (.c S.length) S'
  | .exc e x S' => .exc e x (S'.take S.length)
  | _ => .bad) else .bad
@[simp] def dMk (g : List W → Sto → R W) (dfl : List D) (a : DA) : DE := fun e S => (a e S).bind fun ws S1 => g (ws ++ dfl.map W.d) S1
section
variable {J : Jn} {X : Cx} {w : WX} {F Fi : FnTab} {k : Nat} {a o e : Expr} {es : List Expr} {da d_o : DE} {dr : DA} {pos p apos : Pos} {x m : Str} {f n c nf : Nat}
theorem sx_call (t : Cok J X w F Fi k) (h : J.sg.nm f = some (x, n)) (ha : PA X (e :: es) (rdA (J.inf X.K) w dr)) (hg : Gl X x := by rfl)
    (hdb : (x == ("__debug__" : Str)) = false := by decide) (he : starEach (e :: es) X.env = (false, eval e X.env) :: starEach es X.env := by rfl) (hpl : (backTo pos (starEach es X.env)).any (·.1) = false := by rfl) :
    PE X (.Call (.Name x p) (e :: es) [] pos) (rdE (J.inf X.K) w (dCall F f n dr)) := by
  obtain ⟨fa, fd, ps, h1, h2, h3, h4⟩ := t.call f x n h
  refine PE_imp (pe_callSD (dvs := []) (E := WE w) h3 t.room hg h1 h2 h4 .nil (fun σ => passAt t.tk σ) ha hdb he hpl) fun σ H Q q => rd_args q fun ws vs e S M H s sl r p => ?_
  split at p
  · rename_i hl
    rw [List.append_nil]
    exact ⟨by rw [← Paired.length r]; exact hl, ws, S, M, s, r, p⟩
  · exact p.elim
theorem sx_call0 (t : Cok J X w F Fi k) (h : J.sg.nm f = some (x, n)) (hg : Gl X x := by rfl)
    (hdb : (x == ("__debug__" : Str)) = false := by decide) : PE X (.Call (.Name x p) [] [] pos) (rdE (J.inf X.K) w (dCall F f n dNil)) := by
  obtain ⟨fa, fd, ps, h1, h2, h3, h4⟩ := t.call f x n h
  refine PE_imp (pe_call0D (dvs := []) (E := WE w) h3 t.room hg h1 h2 h4 .nil (fun σ => passAt t.tk σ) hdb) fun σ H Q q => ?_
  obtain ⟨e, S, M, s, sl, p⟩ := q
  change EndR _ S M H _ Q _ (if ([] : List W).length = n then F f [] S else .bad) at p
  split at p
  · rename_i hl
    exact ⟨hl, [], S, M, s, .nil, p⟩
  · exact p.elim
theorem lookup_zip_none {ks : List Str} {vs : List V} {m : Str} (h : m ∉ ks) : (ks.zip vs).lookup m = none := by
  induction ks generalizing vs with
  | nil => rfl
  | cons k ks ih =>
    cases vs with
    | nil => rfl
    | cons v vs =>
      rw [List.zip_cons_cons, List.lookup_cons]
      have : (m == k) = false := by
        have : m ≠ k := fun q => h (by rw [q]; exact List.mem_cons_self)
        simpa using this
      rw [this]
      exact ih fun z => h (List.mem_cons_of_mem _ z)
/-- the receiver -/
theorem recv_at {I : Inf} {S : Sto} {M : List Addr} {H : Hp} {y : W} {v : V} {c : Nat} (s : Sim I S M H) (r : RepW I M (mask S M H) y v) (h : isC c y S = true) :
    ∃ a C dx vs, v = .ref a ∧ I.G c = some C ∧ H a = some (.ins C dx ((I.fl c).zip vs)) := by
  unfold isC at h
  split at h
  · have h := beq_iff_eq.mp h
    subst h
    cases r with
    | obj g h l q => exact ⟨_, _, _, _, rfl, g, mask_ex _ _ h⟩
  · split at h
    · have h := beq_iff_eq.mp h
      subst h
      obtain ⟨a, ea, rfl⟩ := r
      obtain ⟨C, dx, vs, g, h, l, q⟩ := s.cell _ _ a (by assumption) ea
      exact ⟨a, C, dx, vs, rfl, g, h⟩
    · cases h
  · cases h
theorem sx_meth (t : Cok J X w F Fi k) (h : J.sg.mt f = some (c, m, n)) (hm : m ∉ J.sg.fl c) {pl : Sem Bool} (ho : PE X o (rdE (J.inf X.K) w d_o)) (ha : PA X (e :: es) (rdA (J.inf X.K) w dr))
    (hst : starEach (e :: es) X.env = (false, eval e X.env) :: starEach es X.env := by rfl) (hpl : (backTo pos (starEach es X.env)).any (·.1) = false := by rfl)
    (ht : eval (.Call (.Attribute o m apos) (e :: es) [] pos) X.env = (do
      let ov ← eval o X.env
      standAt apos.atName
      let (f, first) ← holding [ov] (getMethod ov m pl)
      callWith pos f first (backTo pos (starEach (e :: es) X.env)) (backToKw pos (keywordEach [] X.env))) := by rfl) :
    PE X (.Call (.Attribute o m apos) (e :: es) [] pos) (rdE (J.inf X.K) w (dMeth F c f n d_o dr)) := by
  obtain ⟨C, fa, fd, ps, h1, h2, h3, h4⟩ := t.meth f c m n h
  refine PE_imp (pe_methD (dvs := []) (E := WE w) ho (t.cls c C h1) h2 h3 t.room h4 .nil (fun σ => passAt t.tk σ) ha hst hpl ht) fun σ H Q q => rd_one (f := fun e x S1 => if isC c x S1 = true then ((dr e S1).bind fun ws S2 => if ws.length + 1 = n then F f (x :: ws) S2 else .bad) else .bad) q fun y v e S M H s sl r p => ?_
  split at p
  · rename_i hy
    obtain ⟨b, C', dx, vs, rfl, g, hb⟩ := recv_at s r hy
    have : C' = C := by
      have g' : J.G c = some C' := g
      rw [h1] at g'
      exact (Option.some.inj g').symm
    subst this
    refine ⟨b, dx, _, rfl, hb, lookup_zip_none hm, ?_⟩
    refine ⟨e, S, M, s, sl, (EndR.bind (rel1 := RepWs (J.inf X.K)) p).imp fun us H1 ⟨ws, S1, M1, l1, s1, r1, p1⟩ => ?_⟩
    split at p1
    · rename_i hl
      rw [List.append_nil]
      exact ⟨by rw [← hl, Paired.length r1]; rfl, y :: ws, S1, M1, s1, .cons (r.mono l1) r1, p1⟩
    · exact p1.elim
  · exact p.elim
theorem sx_meth0 (t : Cok J X w F Fi k) (h : J.sg.mt f = some (c, m, n)) (hm : m ∉ J.sg.fl c) {pl : Sem Bool} (ho : PE X o (rdE (J.inf X.K) w d_o))
    (ht : eval (.Call (.Attribute o m apos) [] [] pos) X.env = (do
      let ov ← eval o X.env
      standAt apos.atName
      let (f, first) ← holding [ov] (getMethod ov m pl)
      callWith pos f first (backTo pos (starEach [] X.env)) (backToKw pos (keywordEach [] X.env))) := by rfl) :
    PE X (.Call (.Attribute o m apos) [] [] pos) (rdE (J.inf X.K) w (dMeth F c f n d_o dNil)) := by
  obtain ⟨C, fa, fd, ps, h1, h2, h3, h4⟩ := t.meth f c m n h
  refine PE_imp (pe_meth0D (dvs := []) (E := WE w) ho (t.cls c C h1) h2 h3 t.room h4 .nil (fun σ => passAt t.tk σ) ht) fun σ H Q q => rd_one (f := fun e x S1 => if isC c x S1 = true then ((dNil e S1).bind fun ws S2 => if ws.length + 1 = n then F f (x :: ws) S2 else .bad) else .bad) q fun y v e S M H s sl r p => ?_
  split at p
  · rename_i hy
    obtain ⟨b, C', dx, vs, rfl, g, hb⟩ := recv_at s r hy
    have : C' = C := by
      have g' : J.G c = some C' := g
      rw [h1] at g'
      exact (Option.some.inj g').symm
    subst this
    refine ⟨b, dx, _, rfl, hb, lookup_zip_none hm, ?_⟩
    have p1 : EndR (J.inf X.K) S M H (RepW (J.inf X.K)) Q (fun cls dd H' => w cls dd σ H') (if ([] : List W).length + 1 = n then F f [y] S else .bad) := p
    split at p1
    · rename_i hl
      exact ⟨hl, [y], S, M, s, .cons r .nil, p1⟩
    · exact p1.elim
  · exact p.elim
/-- an attribute: of an instance whose class has it at place i -/
@[simp] def attr (c i : Nat) : W → Sto → R W
  | .d (.obj c' xs), S => if c' = c then (match xs[i]? with
    | some x => .ok (.d x) S
    | none => .bad) else .bad
  | .c j, S => match S[j]? with
    | some (.ins c' ws) => if c' = c then (match ws[i]? with
      | some u => .ok u S
      | none => .bad) else .bad
    | _ => .bad
  | _, _ => .bad
@[simp] def dAttr (c i : Nat) (o : DE) : DE := fun e S => (o e S).bind (attr c i)
theorem lookup_zip {ks : List Str} {i : Nat} {m : Str} {v : V} (hn : ks.Nodup) : ∀ {vs : List V}, ks[i]? = some m → vs[i]? = some v → (ks.zip vs).lookup m = some v := by
  induction ks generalizing i with
  | nil => intro vs e; simp at e
  | cons k ks ih =>
    intro vs e1 e2
    cases vs with
    | nil => simp at e2
    | cons u vs =>
      rw [List.zip_cons_cons, List.lookup_cons]
      cases i with
      | zero =>
        simp at e1 e2
        subst e1 e2
        simp
      | succ i =>
        simp at e1 e2
        have hk : (m == k) = false := by
          have : m ≠ k := fun q => (List.nodup_cons.mp hn).1 (by rw [← q]; exact List.mem_of_getElem? e1)
          simpa using this
        rw [hk]
        exact ih (List.nodup_cons.mp hn).2 e1 e2
theorem attr_at {I : Inf} {S : Sto} {M : List Addr} {H : Hp} {y : W} {v : V} {c i : Nat} {Q : VK} {E : XK} {m : Str} (hm : (I.fl c)[i]? = some m) (hn : (I.fl c).Nodup) (s : Sim I S M H) (r : RepW I M (mask S M H) y v) (p : EndR I S M H (RepW I) Q E (attr c i y S)) :
    ∃ a C dx fs u, v = .ref a ∧ I.G c = some C ∧ H a = some (.ins C dx fs) ∧ fs.lookup m = some u ∧ Q u H := by
  unfold attr at p
  split at p
  · split at p
    · rename_i h
      subst h
      split at p
      · rename_i x hx
        cases r with
        | obj g h l q =>
          obtain ⟨u, e1, e2⟩ := q.get hx
          exact ⟨_, _, _, _, u, rfl, g, mask_ex _ _ h, lookup_zip hn hm e1, p.here s e2⟩
      · exact p.elim
    · exact p.elim
  · split at p
    · split at p
      · rename_i h
        subst h
        split at p
        · rename_i x hx
          obtain ⟨a, ea, rfl⟩ := r
          obtain ⟨C, dx, vs, g, h, l, q⟩ := s.cell _ _ a (by assumption) ea
          obtain ⟨u, e1, e2⟩ := paired_get q hx
          exact ⟨_, _, _, _, u, rfl, g, h, lookup_zip hn hm e1, p.here s e2⟩
        · exact p.elim
      · exact p.elim
    · exact p.elim
  · exact p.elim
theorem sx_attr {i : Nat} (t : Cok J X w F Fi k) (hm : (J.sg.fl c)[i]? = some m) (hn : (J.sg.fl c).Nodup) (ho : PE X o (rdE (J.inf X.K) w d_o)) (hb : attributeBase o m X.env (eval o X.env) = eval o X.env := by rfl) :
    PE X (.Attribute o m pos) (rdE (J.inf X.K) w (dAttr c i d_o)) :=
  PE_imp (pe_fld ho hb) fun σ H Q q => rd_one (f := fun _ x S1 => attr c i x S1) q fun y v e S M H s sl r p => by
    obtain ⟨a, C, dx, fs, u, e1, g, e2, e3, e4⟩ := attr_at hm hn s r p
    exact ⟨a, C, dx, fs, u, e1, e2, t.cls c C g, t.nat c C m g (List.mem_of_getElem? hm), e3, e4⟩
/-- a new instance: the heap, the store -/
theorem made_sim {I : Inf} {S : Sto} {M : List Addr} {H : Hp} {x dx C : Addr} {c : Nat} (s : Sim I S M H) (g : I.G c = some C) (nx : H x = none) (nd : H dx = none) (ne : dx ≠ x) :
    Sim I (S ++ [.ins c []]) (M ++ [x]) (upd (upd H dx (.own x)) x (.ins C dx [])) ∧ Le S M H (S ++ [.ins c []]) (M ++ [x]) (upd (upd H dx (.own x)) x (.ins C dx [])) := by
  obtain ⟨s1, l1⟩ := s.new (o := .own x) nd
  obtain ⟨s2, l2⟩ := s1.newC (p := x) (o := .ins C dx []) (c := .ins c []) (by rw [upd_ne (Ne.symm ne)]; exact nx) (fun w m => by cases m) ⟨C, dx, [], g, by simp, Nat.zero_le _, .nil⟩ (by intro z; cases z)
  exact ⟨s2, l1.trans l2⟩
theorem mkF_end {I : Inf} {S : Sto} {M : List Addr} {H : Hp} {Q : VK} {E : XK} {x dx C : Addr} {c f n nf : Nat} {ws : List W} {vs : List V} (hnf : (I.fl c).length = nf) (s : Sim I S M H) (r : RepWs I M (mask S M H) ws vs) (g : I.G c = some C) (p : EndR I S M H (RepW I) Q E (mkF Fi c f n nf ws S))
    (nx : H x = none) (nd : H dx = none) (ne : dx ≠ x) : spOf I Fi f n (.ref x :: vs) (upd (upd H dx (.own x)) x (.ins C dx [])) (fun v H2 => v = .non ∧ Q (.ref x) H2) E := by
  obtain ⟨s2, l2⟩ := made_sim s g nx nd ne
  unfold mkF at p
  split at p
  · rename_i hl
    refine ⟨by rw [← hl, Paired.length r]; rfl, .c S.length :: ws, _, _, s2, .cons ⟨x, ?_, rfl⟩ (RepWs.mono l2 r), ?_⟩
    · rw [List.getElem?_append_right (by rw [s.len]; exact Nat.le_refl _), s.len, Nat.sub_self]
      rfl
    have hM : M.length = S.length := s.len
    generalize Fi f (.c S.length :: ws) (S ++ [.ins c []]) = rr at p ⊢
    cases rr with
    | bad => exact p
    | exc e d S' =>
      intro cls dd H' M' l' s' rx
      obtain ⟨a, b, e'⟩ := cut_le s (l2.trans l') s'
      refine p cls dd H' M b a (rx.mono ?_)
      have := (s'.cut (n := S.length)).2
      rw [e'] at this
      exact this
    | ok w S' =>
      cases w with
      | c i => exact p.elim
      | d dd =>
        cases dd <;> try exact p.elim
        intro v H' M' l' s' rv
        cases rv
        dsimp only at p
        split at p
        · rename_i c' xs hc
          split at p
          · rename_i ds hds
            split at p
            · rename_i hh
              obtain ⟨rfl, hlen⟩ := hh
              obtain ⟨a, b, e'⟩ := cut_le s (l2.trans l') s'
              refine ⟨rfl, p (.ref x) H' M b a ?_⟩
              have hx : M'[S.length]? = some x := by
                refine pre_get l'.pre ?_
                rw [List.getElem?_append_right (by rw [s.len]; exact Nat.le_refl _), s.len, Nat.sub_self]
                rfl
              obtain ⟨C', dx', vs', g', ho, hle, q⟩ := s'.cell _ _ x hc hx
              have rr := plainL_rep q hds
              have exm := (s'.cut (n := S.length)).2
              rw [e'] at exm
              refine .obj g' (mask_some.mpr ⟨fun ⟨j, k, z1, _, _⟩ => s.fresh nx (List.mem_of_getElem? z1), ho⟩) ?_ (rr.mono exm)
              rw [← rr.len, hlen, hnf]
            · exact p.elim
          · exact p.elim
        · exact p.elim
  · exact p.elim
theorem mkC_end {I : Inf} {S : Sto} {M : List Addr} {H : Hp} {Q : VK} {E : XK} {x dx C : Addr} {c f n : Nat} {ws : List W} {vs : List V} (s : Sim I S M H) (r : RepWs I M (mask S M H) ws vs) (g : I.G c = some C) (p : EndR I S M H (RepW I) Q E (mkC Fi c f n ws S))
    (nx : H x = none) (nd : H dx = none) (ne : dx ≠ x) : spOf I Fi f n (.ref x :: vs) (upd (upd H dx (.own x)) x (.ins C dx [])) (fun v H2 => v = .non ∧ Q (.ref x) H2) E := by
  obtain ⟨s2, l2⟩ := made_sim s g nx nd ne
  have hx0 : (M ++ [x])[S.length]? = some x := by
    rw [List.getElem?_append_right (by rw [s.len]; exact Nat.le_refl _), s.len, Nat.sub_self]
    rfl
  unfold mkC at p
  split at p
  · rename_i hl
    refine ⟨by rw [← hl, Paired.length r]; rfl, .c S.length :: ws, _, _, s2, .cons ⟨x, hx0, rfl⟩ (RepWs.mono l2 r), ?_⟩
    generalize Fi f (.c S.length :: ws) (S ++ [.ins c []]) = rr at p ⊢
    cases rr with
    | bad => exact p
    | exc e d S' =>
      intro cls dd H' M' l' s' rx
      obtain ⟨a, b, e'⟩ := cut_le s (l2.trans l') s'
      refine p cls dd H' M b a (rx.mono ?_)
      have := (s'.cut (n := S.length)).2
      rw [e'] at this
      exact this
    | ok w S' =>
      cases w with
      | c i => exact p.elim
      | d dd =>
        cases dd <;> try exact p.elim
        intro v H' M' l' s' rv
        cases rv
        exact ⟨rfl, p (.ref x) H' M' (l2.trans l') s' ⟨x, pre_get l'.pre hx0, rfl⟩⟩
  · exact p.elim
theorem RepWs.app {I : Inf} {M : List Addr} {H : Hp} : ∀ {a b : List W} {u v : List V}, RepWs I M H a u → RepWs I M H b v → RepWs I M H (a ++ b) (u ++ v)
  | _, _, _, _, .nil, s => s
  | _, _, _, _, .cons r t, s => .cons r (RepWs.app t s)
theorem reps_scal {I : Inf} {H : Hp} {M : List Addr} : ∀ {ds : List D} {vs : List V}, (∀ H, Reps I H ds vs) → RepWs I M H (ds.map W.d) vs := fun h => reps_map (h _)
theorem sx_mkF {dfl : List D} {dvs : List V} {dfs : List (List V)} (t : Cok J X w F Fi k) (h : J.sg.ini c = some (x, f, n, dfs)) (hd : dvs ∈ dfs) (hr : ∀ H, Reps (J.inf X.K) H dfl dvs) (hnf : (J.sg.fl c).length = nf) (ha : PA X (e :: es) (rdA (J.inf X.K) w dr)) (hg : Gl X x := by rfl)
    (hdb : (x == ("__debug__" : Str)) = false := by decide) (he : starEach (e :: es) X.env = (false, eval e X.env) :: starEach es X.env := by rfl) (hpl : (backTo pos (starEach es X.env)).any (·.1) = false := by rfl) :
    PE X (.Call (.Name x p) (e :: es) [] pos) (rdE (J.inf X.K) w (dMk (mkF Fi c f n nf) dfl dr)) := by
  obtain ⟨C, fa, fd, ps, h1, h2, h3, h4, h5⟩ := t.make c x f n dfs h
  obtain ⟨ds, h6, h7⟩ := h5 dvs hd
  exact PE_imp (pe_makeD (dvs := dvs) (E := WE w) h3 h4 t.room hg h2 h7 h6 (fun σ => passAt t.tk σ) ha hdb he hpl) fun σ H Q q => rd_args (f := fun ws S1 => mkF Fi c f n nf (ws ++ dfl.map W.d) S1) q fun ws vs e S M H s sl r p y dy ny nd ne =>
    mkF_end hnf s (RepWs.app r (reps_scal hr)) h1 p ny nd ne
theorem sx_mkF0 {dfl : List D} {dvs : List V} {dfs : List (List V)} (t : Cok J X w F Fi k) (h : J.sg.ini c = some (x, f, n, dfs)) (hd : dvs ∈ dfs) (hr : ∀ H, Reps (J.inf X.K) H dfl dvs) (hnf : (J.sg.fl c).length = nf) (hg : Gl X x := by rfl)
    (hdb : (x == ("__debug__" : Str)) = false := by decide) : PE X (.Call (.Name x p) [] [] pos) (rdE (J.inf X.K) w (dMk (mkF Fi c f n nf) dfl dNil)) := by
  obtain ⟨C, fa, fd, ps, h1, h2, h3, h4, h5⟩ := t.make c x f n dfs h
  obtain ⟨ds, h6, h7⟩ := h5 dvs hd
  refine PE_imp (pe_make0D (dvs := dvs) (E := WE w) h3 h4 t.room hg h2 h7 h6 (fun σ => passAt t.tk σ) hdb) fun σ H Q q => ?_
  obtain ⟨e, S, M, s, sl, p⟩ := q
  exact fun y dy ny nd ne => mkF_end hnf s (RepWs.app .nil (reps_scal hr)) h1 p ny nd ne
theorem sx_mkC {dfl : List D} {dvs : List V} {dfs : List (List V)} (t : Cok J X w F Fi k) (h : J.sg.ini c = some (x, f, n, dfs)) (hd : dvs ∈ dfs) (hr : ∀ H, Reps (J.inf X.K) H dfl dvs) (ha : PA X (e :: es) (rdA (J.inf X.K) w dr)) (hg : Gl X x := by rfl)
    (hdb : (x == ("__debug__" : Str)) = false := by decide) (he : starEach (e :: es) X.env = (false, eval e X.env) :: starEach es X.env := by rfl) (hpl : (backTo pos (starEach es X.env)).any (·.1) = false := by rfl) :
    PE X (.Call (.Name x p) (e :: es) [] pos) (rdE (J.inf X.K) w (dMk (mkC Fi c f n) dfl dr)) := by
  obtain ⟨C, fa, fd, ps, h1, h2, h3, h4, h5⟩ := t.make c x f n dfs h
  obtain ⟨ds, h6, h7⟩ := h5 dvs hd
  exact PE_imp (pe_makeD (dvs := dvs) (E := WE w) h3 h4 t.room hg h2 h7 h6 (fun σ => passAt t.tk σ) ha hdb he hpl) fun σ H Q q => rd_args (f := fun ws S1 => mkC Fi c f n (ws ++ dfl.map W.d) S1) q fun ws vs e S M H s sl r p y dy ny nd ne =>
    mkC_end s (RepWs.app r (reps_scal hr)) h1 p ny nd ne
theorem sx_mkC0 {dfl : List D} {dvs : List V} {dfs : List (List V)} (t : Cok J X w F Fi k) (h : J.sg.ini c = some (x, f, n, dfs)) (hd : dvs ∈ dfs) (hr : ∀ H, Reps (J.inf X.K) H dfl dvs) (hg : Gl X x := by rfl)
    (hdb : (x == ("__debug__" : Str)) = false := by decide) : PE X (.Call (.Name x p) [] [] pos) (rdE (J.inf X.K) w (dMk (mkC Fi c f n) dfl dNil)) := by
  obtain ⟨C, fa, fd, ps, h1, h2, h3, h4, h5⟩ := t.make c x f n dfs h
  obtain ⟨ds, h6, h7⟩ := h5 dvs hd
  refine PE_imp (pe_make0D (dvs := dvs) (E := WE w) h3 h4 t.room hg h2 h7 h6 (fun σ => passAt t.tk σ) hdb) fun σ H Q q => ?_
  obtain ⟨e, S, M, s, sl, p⟩ := q
  exact fun y dy ny nd ne => mkC_end s (RepWs.app .nil (reps_scal hr)) h1 p ny nd ne
end
end Py

/-! Py6: tests, built-in functions, slices. -/
namespace Py
open PySem PySem.Spec PyProof.Rows L2
/-! ### tests -/
@[simp] def tru : W → Sto → R Bool
  | .d .non, S => .ok false S
  | .d (.bl b), S => .ok b S
  | .d (.int i), S => .ok (i != 0) S
  | .d (.str x), S => if x.length ≤ sizeLine then .ok ((x.length : Int) != 0) S else .bad
  | .d (.tup xs), S => .ok (!xs.isEmpty) S
  | .d (.lst xs), S => .ok (!xs.isEmpty) S
  | .d (.lsx xs), S => .ok (!xs.isEmpty) S
  | .c i, S => match S[i]? with
    | some (.lst ws) => .ok (!ws.isEmpty) S
    | _ => .bad
  | _, _ => .bad
/-- .. where the instances of the class c have their own __bool__ -/
@[simp] def truO (F : FnTab) (c f : Nat) : W → Sto → R Bool
  | .d (.obj c' xs), S => if c' = c then (match F f [.d (.obj c' xs)] S with
    | .ok (.d (.bl b)) S' => .ok b S'
    | _ => .bad) else .bad
  | x, S => tru x S
@[simp] def dTr (g : W → Sto → R Bool) (a : DE) : DT := fun e S => (a e S).bind g
@[simp] def dTb (a : DE) : DT := fun e S => (a e S).bind fun x S1 => match x with
  | .d (.bl b) => .ok b S1
  | _ => .bad
@[simp] def dAnd (a b : DT) : DT := fun e S => (a e S).bind fun c S1 => if c = true then b e S1 else .ok false S1
@[simp] def dOr (a b : DT) : DT := fun e S => (a e S).bind fun c S1 => if c = true then .ok true S1 else b e S1
@[simp] def dNot (a : DT) : DT := fun e S => (a e S).bind fun c S1 => .ok (!c) S1
/-- as values: bools alone -/
@[simp] def dAndV (a b : DE) : DE := fun e S => (a e S).bind fun x S1 => match x with
  | .d (.bl c) => if c = true then b e S1 else .ok (.d (.bl false)) S1
  | _ => .bad
@[simp] def dOrV (a b : DE) : DE := fun e S => (a e S).bind fun x S1 => match x with
  | .d (.bl c) => if c = true then .ok (.d (.bl true)) S1 else b e S1
  | _ => .bad
@[simp] def dNotV (a : DE) : DE := fun e S => (a e S).bind fun x S1 => match x with
  | .d (.bl c) => .ok (.d (.bl (!c))) S1
  | _ => .bad
@[simp] def dIf (t : DT) (a b : DE) : DE := fun e S => (t e S).bind fun c S1 => if c = true then a e S1 else b e S1
@[simp] def dChain (f g : W → W → Sto → R W) (a b c : DE) : DE := fun e S => (a e S).bind fun x S1 => (b e S1).bind fun y S2 => (f x y S2).ne.bind fun z S3 => match z with
  | .d (.bl k) => if k = true then ((c e S3).bind fun u S4 => (g y u S4).ne) else .ok (.d (.bl false)) S3
  | _ => .bad
section
variable {J : Jn} {X : Cx} {I : Inf} {w : WX} {F Fi : FnTab} {k : Nat} {a b c : Expr} {rest : List Expr} {da db dc : DE} {ta tb : DT} {pos : Pos}
def rdTru (I : Inf) (g : W → Sto → R Bool) : V → Hp → (Bool → Hp → Prop) → Prop := fun v H Q => ∃ (x : W) (S : Sto) (M : List Addr), Sim I S M H ∧ RepW I M (mask S M H) x v ∧ EndR I S M H (fun _ _ a b => a = b) Q E0 (g x S)
theorem tru_plain {pins : List (Addr × Obj)} {s : Shared} {σ : L2.St} {H : Hp} {v : V} {u : Value} {Q : Bool → Hp → Prop} (In : Inv X pins σ H s) (rv : RelV v u) {x : W} {S : Sto} {M : List Addr} (sim : Sim ⟨X.K, I.G, I.fl⟩ S M H) (rx : RepW ⟨X.K, I.G, I.fl⟩ M (mask S M H) x v)
    (p : EndR ⟨X.K, I.G, I.fl⟩ S M H (fun _ _ a b => a = b) Q E0 (tru x S)) : wpAny (model X.prog X.w) X.A (truthy u) (TP X pins σ Q) X.xe s := by
  have emp : ∀ {α β : Type} {xs : List α} {ys : List β}, xs.length = ys.length → (!xs.isEmpty) = (!ys.isEmpty) := fun {α β xs ys} h => by
    cases xs <;> cases ys <;> simp at h <;> rfl
  unfold tru at p
  split at p
  · cases rx
    exact tru_ok pins s σ H _ u Q In rv ⟨_, rfl, p.here sim rfl⟩
  · cases rx
    exact tru_ok pins s σ H _ u Q In rv ⟨_, rfl, p.here sim rfl⟩
  · cases rx
    exact tru_ok pins s σ H _ u Q In rv ⟨_, rfl, p.here sim rfl⟩
  · split at p
    · cases rx
      exact tru_ok pins s σ H _ u Q In rv ⟨_, ⟨by assumption, rfl⟩, p.here sim rfl⟩
    · exact p.elim
  · cases rx with
    | tup h r => exact tru_ok pins s σ H _ u Q In rv ⟨_, .inr (.inl ⟨_, ex_t mask_ex h, rfl⟩), by rw [← emp r.len]; exact p.here sim rfl⟩
  · cases rx with
    | lst h r => exact tru_ok pins s σ H _ u Q In rv ⟨_, .inl ⟨_, .inl (.inl (mask_ex _ _ h)), rfl⟩, by rw [← emp r.len]; exact p.here sim rfl⟩
  · cases rx with
    | lsx h r => exact tru_ok pins s σ H _ u Q In rv ⟨_, .inl ⟨_, ex_l mask_ex h, rfl⟩, by rw [← emp r.len]; exact p.here sim rfl⟩
  · split at p
    · obtain ⟨a, ea, rfl⟩ := rx
      obtain ⟨vs, ho, q⟩ := sim.cell _ _ a (by assumption) ea
      exact tru_ok pins s σ H _ u Q In rv ⟨_, .inl ⟨_, .inl (.inl ho), rfl⟩, by rw [← emp (Paired.length q)]; exact p.here sim rfl⟩
    · exact p.elim
  · exact p.elim
theorem tr_plain : TruR X (rdTru ⟨X.K, I.G, I.fl⟩ tru) := fun pins s σ H v u Q In rv ⟨x, S, M, sim, rx, p⟩ => tru_plain In rv sim rx p
theorem pt_tru {r : V → Hp → (Bool → Hp → Prop) → Prop} {t : TE} (hr : TruR X r) (ha : PE X a t) (he : ∀ whole, isTrue a X.env whole = (do let v ← whole; standAt a.pos; holding [v] (truthy v))) :
    PT X a (fun σ H Q => t σ H fun x H' => r x H' Q) := by
  refine ⟨fun pins s σ H Q I h => ?_⟩
  exact isTrue_plain (thn (ha.run pins s σ H _ I h) fun v s1 ⟨x, H1, I1, r1, q1⟩ => hr pins s1 σ H1 x v Q I1 r1 q1) (he _)
theorem noE {α β : Type} {S : Sto} {M : List Addr} {H : Hp} {rel : List Addr → Hp → α → β → Prop} {Q : β → Hp → Prop} {E E' : XK} {r : R α} (hr : r = r.ne) (h : EndR I S M H rel Q E r) : EndR I S M H rel Q E' r := by
  rw [hr] at h ⊢
  cases r with
  | ok a S' => exact h
  | exc c x S' => exact h.elim
  | bad => exact h
theorem tru_ne (x : W) (S : Sto) : tru x S = (tru x S).ne := by
  unfold tru
  repeat' split
  all_goals rfl
theorem truO_ne (F : FnTab) (c f : Nat) (x : W) (S : Sto) : truO F c f x S = (truO F c f x S).ne := by
  unfold truO
  split
  · split
    · split <;> rfl
    · rfl
  · exact tru_ne x S
theorem st_tr {g : W → Sto → R Bool} (hg : ∀ x S, g x S = (g x S).ne) (hr : TruR X (rdTru I g)) (ha : PE X a (rdE I w da)) (he : ∀ whole, isTrue a X.env whole = (do let v ← whole; standAt a.pos; holding [v] (truthy v)) := by intro _; rfl) : PT X a (rdT I w (dTr g da)) :=
  PT_imp (pt_tru hr ha he) fun σ H Q q => rd_one (f := fun _ x S1 => g x S1) q fun x v e S M H s sl r p => ⟨x, S, M, s, r, noE (hg x S) p⟩
/-- an expression that gives a bool, by pt_val or a comparison -/
theorem st_val (ha : PE X a (rdE I w da)) (he : ∀ whole, isTrue a X.env whole = (do let v ← whole; standAt a.pos; holding [v] (truthy v)) := by intro _; rfl) : PT X a (rdT I w (dTb da)) :=
  PT_imp (pt_val ha he) fun σ H Q q => rd_one (f := fun _ x S1 => match x with
  | .d (.bl b) => .ok b S1
  | _ => .bad) q fun x v e S M H s sl r p => by
    split at p
    · cases r
      exact ⟨_, rfl, p.here s rfl⟩
    · exact p.elim
theorem st_cmp {op : CmpOp} {f : W → W → Sto → R W} (ho : OpR X (compareOp op) (rdOp I f)) (ha : PE X a (rdE I w da)) (hb : PE X b (rdE I w db)) (hm : behindInMarks op b = false := by first | exact nomark _ | rfl) : PT X (.Compare a [op] [b] pos) (rdT I w (dTb (dOp f da db))) :=
  PT_imp (pt_cmpR ho ha hb hm) fun σ H Q q => by
    refine rd_two (rel := fun _ _ a b => a = b) (f := fun x y S2 => (f x y S2).ne.bind fun z S3 => match z with
      | .d (.bl b) => .ok b S3
      | _ => .bad) (Q := Q) ?_ fun x y v u S M H s rx ry p => ?_
    · obtain ⟨e, S, M, s, sl, p⟩ := q
      refine ⟨e, S, M, s, sl, ?_⟩
      dsimp only [dTb, dOp] at p
      generalize da e S = r1 at p ⊢
      cases r1 with
      | ok a1 S1 =>
        dsimp only [R.bind] at p ⊢
        generalize db e S1 = r2 at p ⊢
        cases r2 with
        | ok a2 S2 => exact p
        | exc c x S' => exact p
        | bad => exact p
      | exc c x S' => exact p
      | bad => exact p
    · refine ⟨x, y, S, M, s, rx, ry, ?_⟩
      have p := (EndR.bind (rel1 := RepW I) p).ne (E' := E0)
      refine p.imp fun z H' ⟨d, S1, M1, l1, s1, r1, p1⟩ => ?_
      split at p1
      · cases r1
        exact ⟨_, rfl, p1.here s1 rfl⟩
      · exact p1.elim
theorem st_and1 (ha : PT X a (rdT I w ta)) : PW X (.BoolOp .And [a] pos) (rdT I w ta) := pw_and1 ha
theorem st_or1 (ha : PT X a (rdT I w ta)) : PW X (.BoolOp .Or [a] pos) (rdT I w ta) := pw_or1 ha
theorem rdT_one {α β : Type} {rel : List Addr → Hp → α → β → Prop} {σ : L2.St} {H : Hp} {Q : β → Hp → Prop} {f : Env → Bool → Sto → R α} {P : Bool → Hp → Prop}
    (h : ∃ (env : Env) (S : Sto) (M : List Addr), Sim I S M H ∧ Slots I M (mask S M H) env σ ∧ EndR I S M H rel Q (fun cls dd H' => w cls dd σ H') ((ta env S).bind fun x S1 => f env x S1))
    (k : ∀ (x : Bool) (env : Env) (S : Sto) (M : List Addr) (H : Hp), Sim I S M H → Slots I M (mask S M H) env σ → EndR I S M H rel Q (fun cls dd H' => w cls dd σ H') (f env x S) → P x H) :
    rdT I w ta σ H P := by
  obtain ⟨e, S, M, sim, sl, p⟩ := h
  refine ⟨e, S, M, sim, sl, (EndR.bind (rel1 := fun _ _ a b => a = b) p).imp fun v H1 ⟨x, S1, M1, l1, s1, r1, p1⟩ => ?_⟩
  subst r1
  exact k x e S1 M1 H1 s1 (sl.mono l1) p1
theorem st_and (ha : PT X a (rdT I w ta)) (hb : PW X (.BoolOp .And (b :: rest) pos) (rdT I w tb)) : PW X (.BoolOp .And (a :: b :: rest) pos) (rdT I w (dAnd ta tb)) :=
  PW_imp (pw_and ha hb) fun σ H Q q => rdT_one (f := fun e c S1 => if c = true then tb e S1 else .ok false S1) q fun x e S M H s sl p => by
    split at p
    · rename_i h
      rw [if_pos h]
      exact ⟨e, S, M, s, sl, p⟩
    · rename_i h
      rw [if_neg h]
      exact p.here s rfl
theorem st_or (ha : PT X a (rdT I w ta)) (hb : PW X (.BoolOp .Or (b :: rest) pos) (rdT I w tb)) : PW X (.BoolOp .Or (a :: b :: rest) pos) (rdT I w (dOr ta tb)) :=
  PW_imp (pw_or ha hb) fun σ H Q q => rdT_one (f := fun e c S1 => if c = true then .ok true S1 else tb e S1) q fun x e S M H s sl p => by
    split at p
    · rename_i h
      rw [if_pos h]
      exact p.here s rfl
    · rename_i h
      rw [if_neg h]
      exact ⟨e, S, M, s, sl, p⟩
theorem st_not (ha : PT X a (rdT I w ta)) : PT X (.UnaryOp .Not a pos) (rdT I w (dNot ta)) :=
  PT_imp (pt_not ha) fun σ H Q q => rdT_one (f := fun _ c S1 => .ok (!c) S1) q fun x e S M H s sl p => p.here s rfl
theorem sx_one {op : BoolOp} {t : TE} (h : PE X a t) : PE X (.BoolOp op [a] pos) t := pe_one h
theorem sx_and (ha : PE X a (rdE I w da)) (hb : PE X (.BoolOp .And (b :: rest) pos) (rdE I w db)) : PE X (.BoolOp .And (a :: b :: rest) pos) (rdE I w (dAndV da db)) :=
  PE_imp (pe_and ha hb) fun σ H Q q => rd_one (f := fun e x S1 => match x with
  | .d (.bl c) => if c = true then db e S1 else .ok (.d (.bl false)) S1
  | _ => .bad) q fun x v e S M H s sl r p => by
    split at p
    · cases r
      refine ⟨_, rfl, ?_⟩
      split at p
      · rename_i h
        rw [if_pos h]
        exact ⟨e, S, M, s, sl, p⟩
      · rename_i h
        rw [if_neg h]
        exact p.here s (.bl _)
    · exact p.elim
theorem sx_or (ha : PE X a (rdE I w da)) (hb : PE X (.BoolOp .Or (b :: rest) pos) (rdE I w db)) : PE X (.BoolOp .Or (a :: b :: rest) pos) (rdE I w (dOrV da db)) :=
  PE_imp (pe_or ha hb) fun σ H Q q => rd_one (f := fun e x S1 => match x with
  | .d (.bl c) => if c = true then .ok (.d (.bl true)) S1 else db e S1
  | _ => .bad) q fun x v e S M H s sl r p => by
    split at p
    · cases r
      refine ⟨_, rfl, ?_⟩
      split at p
      · rename_i h
        rw [if_pos h]
        exact p.here s (.bl _)
      · rename_i h
        rw [if_neg h]
        exact ⟨e, S, M, s, sl, p⟩
    · exact p.elim
theorem sx_not (ha : PE X a (rdE I w da)) : PE X (.UnaryOp .Not a pos) (rdE I w (dNotV da)) :=
  PE_imp (pe_not ha) fun σ H Q q => rd_one (rel := RepW I) (f := fun _ x S1 => match x with
  | .d (.bl c) => .ok (W.d (D.bl (!c))) S1
  | _ => .bad) q fun x v e S M H s sl r p => by
    split at p
    · cases r
      exact ⟨_, rfl, p.here s (.bl _)⟩
    · exact p.elim
theorem sx_if (hc : PT X c (rdT I w ta)) (ha : PE X a (rdE I w da)) (hb : PE X b (rdE I w db)) : PE X (.IfExp c a b pos) (rdE I w (dIf ta da db)) :=
  PE_imp (pe_ifExp hc ha hb) fun σ H Q q => rdT_one (f := fun e c S1 => if c = true then da e S1 else db e S1) q fun x e S M H s sl p => by
    split at p
    · rename_i h
      rw [if_pos h]
      exact ⟨e, S, M, s, sl, p⟩
    · rename_i h
      rw [if_neg h]
      exact ⟨e, S, M, s, sl, p⟩
theorem sx_chain {op op' : CmpOp} {f g : W → W → Sto → R W} (ho : OpR X (compareOp op) (rdOp I f)) (ho' : OpR X (compareOp op') (rdOp I g)) (ha : PE X a (rdE I w da)) (hb : PE X b (rdE I w db)) (hc : PE X c (rdE I w dc))
    (hm : lastMarks [op, op'] [b, c] = false := by with_unfolding_all rfl) : PE X (.Compare a [op, op'] [b, c] pos) (rdE I w (dChain f g da db dc)) :=
  PE_imp (pe_chain ho ho' ha hb hc hm) fun σ H Q q => by
    obtain ⟨e, S, M, sim, sl, p⟩ := q
    refine ⟨e, S, M, sim, sl, (EndR.bind (rel1 := RepW I) p).imp fun v H1 ⟨x, S1, M1, l1, s1, r1, p1⟩ => ?_⟩
    refine ⟨e, S1, M1, s1, sl.mono l1, (EndR.bind (rel1 := RepW I) p1).imp fun u H2 ⟨y, S2, M2, l2, s2, r2, p2⟩ => ?_⟩
    refine ⟨x, y, S2, M2, s2, r1.mono l2, r2, ((EndR.bind (rel1 := RepW I) p2).ne (E' := E0)).imp fun z H3 ⟨d, S3, M3, l3, s3, r3, p3⟩ => ?_⟩
    split at p3
    · cases r3
      refine ⟨_, rfl, ?_⟩
      split at p3
      · rename_i h
        rw [if_pos h]
        refine ⟨e, S3, M3, s3, ((sl.mono l1).mono l2).mono l3, (EndR.bind (rel1 := RepW I) p3).imp fun u4 H4 ⟨z4, S4, M4, l4, s4, r4, p4⟩ => ?_⟩
        exact ⟨y, z4, S4, M4, s4, (r2.mono l3).mono l4, r4, p4.ne⟩
      · rename_i h
        rw [if_neg h]
        exact p3.here s3 (.bl _)
    · exact p3.elim
end
end Py

/-! Py7: built-in functions, isinstance, slices, operators of one's own. -/
namespace Py
open PySem PySem.Spec PyProof.Rows L2
@[simp] def dB (g : List W → Sto → R W) (a : DA) : DE := fun e S => (a e S).bind fun ws S1 => (g ws S1).ne
@[simp] def gLen : List W → Sto → R W
  | [.d (.str x)], S => if x.length ≤ sizeLine then .ok (.d (.int x.length)) S else .bad
  | [x], S => match seqOf x S with
    | some ws => .ok (.d (.int ws.length)) S
    | none => .bad
  | _, _ => .bad
@[simp] def gAbs : List W → Sto → R W
  | [.d (.int i)], S => .ok (.d (.int (if i < 0 then -i else i))) S
  | _, _ => .bad
@[simp] def gMax2 : List W → Sto → R W
  | [.d (.int i), .d (.int j)], S => .ok (.d (.int (if j > i then j else i))) S
  | _, _ => .bad
@[simp] def gMin2 : List W → Sto → R W
  | [.d (.int i), .d (.int j)], S => .ok (.d (.int (if j < i then j else i))) S
  | _, _ => .bad
@[simp] def gInt : List W → Sto → R W
  | [.d (.int i)], S => .ok (.d (.int i)) S
  | [.d (.bl b)], S => .ok (.d (.int (if b then 1 else 0))) S
  | _, _ => .bad
@[simp] def gStr : List W → Sto → R W
  | [.d (.int i)], S => if i.natAbs.log2 < 1920 then .ok (.d (.str (toString i : String))) S else .bad
  | _, _ => .bad
/-- what a list holds -/
@[simp] def lsOf : W → Sto → Option (List W)
  | .d (.lst xs), _ => some (xs.map W.d)
  | .d (.lsx xs), _ => some (xs.map W.d)
  | .c i, S => match S[i]? with
    | some (.lst ws) => some ws
    | _ => none
  | _, _ => none
@[simp] def gTuple : List W → Sto → R W
  | [.d (.tup xs)], S => .ok (.d (.tup xs)) S
  | [x], S => match lsOf x S with
    | some ws => match plainL ws with
      | some xs => .ok (.d (.tup xs)) S
      | none => .bad
    | none => .bad
  | _, _ => .bad
@[simp] def gList : List W → Sto → R W
  | [x], S => match seqOf x S with
    | some ws => match plainL ws with
      | some xs => .ok (.d (.lst xs)) S
      | none => .bad
    | none => .bad
  | _, _ => .bad
@[simp] def gListC : List W → Sto → R W
  | [x], S => match seqOf x S with
    | some ws => .ok (.c S.length) (S ++ [.lst ws])
    | none => .bad
  | _, _ => .bad
section
variable {J : Jn} {X : Cx} {I : Inf} {w : WX} {F Fi : FnTab} {k : Nat} {a b c e : Expr} {es rest : List Expr} {da db dc : DE} {dr : DA} {pos p : Pos} {x : Str} {id T : String}
def rdCall (I : Inf) (g : List W → Sto → R W) : List V → Hp → VK → Prop := fun vs H Q => ∃ (ws : List W) (S : Sto) (M : List Addr), Sim I S M H ∧ RepWs I M (mask S M H) ws vs ∧ EndR I S M H (RepW I) Q E0 (g ws S)
theorem sx_fn {g : List W → Sto → R W} (hc : CallR X (.builtin id) (rdCall (J.inf X.K) g)) (t : Cok J X w F Fi k) (hb : J.sg.blt x = true) (hv : bootBuiltins x = some (.builtin id)) (ha : PA X (e :: es) (rdA (J.inf X.K) w dr)) (hg : Gl X x := by rfl) (hn : x ≠ "__name__" := by decide) (hdb : (x == ("__debug__" : Str)) = false := by decide)
    (he : starEach (e :: es) X.env = (false, eval e X.env) :: starEach es X.env := by rfl) (hpl : (backTo pos (starEach es X.env)).any (·.1) = false := by rfl) : PE X (.Call (.Name x p) (e :: es) [] pos) (rdE (J.inf X.K) w (dB g dr)) :=
  PE_imp (pe_callB hc hg (t.glb x hb) hv ha hn hdb he hpl) fun σ H Q q => rd_args (f := fun ws S1 => (g ws S1).ne) q fun ws vs e S M H s sl r p => ⟨ws, S, M, s, r, p.ne⟩
theorem sx_ty {g : List W → Sto → R W} (hc : CallR X (.type T) (rdCall (J.inf X.K) g)) (t : Cok J X w F Fi k) (hb : J.sg.blt x = true) (hv : bootBuiltins x = some (.type T)) (ha : PA X (e :: es) (rdA (J.inf X.K) w dr)) (hg : Gl X x := by rfl) (hn : x ≠ "__name__" := by decide) (hdb : (x == ("__debug__" : Str)) = false := by decide)
    (he : starEach (e :: es) X.env = (false, eval e X.env) :: starEach es X.env := by rfl) (hpl : (backTo pos (starEach es X.env)).any (·.1) = false := by rfl) : PE X (.Call (.Name x p) (e :: es) [] pos) (rdE (J.inf X.K) w (dB g dr)) :=
  PE_imp (pe_callTy hc hg (t.glb x hb) hv ha hn hdb he hpl) fun σ H Q q => rd_args (f := fun ws S1 => (g ws S1).ne) q fun ws vs e S M H s sl r p => ⟨ws, S, M, s, r, p.ne⟩
theorem RepWs.one {M : List Addr} {H : Hp} {x : W} {vs : List V} (r : RepWs I M H [x] vs) : ∃ v, vs = [v] ∧ RepW I M H x v := by
  cases r with
  | cons r t => cases t; exact ⟨_, rfl, r⟩
theorem RepWs.two {M : List Addr} {H : Hp} {x y : W} {vs : List V} (r : RepWs I M H [x, y] vs) : ∃ v u, vs = [v, u] ∧ RepW I M H x v ∧ RepW I M H y u := by
  cases r with
  | cons r t => cases t with | cons r2 t => cases t; exact ⟨_, _, rfl, r, r2⟩
theorem lsOf_at {S : Sto} {M : List Addr} {H : Hp} {x : W} {v : V} {ws : List W} (sim : Sim I S M H) (r : RepW I M (mask S M H) x v) (e : lsOf x S = some ws) : ∃ a vs, v = .ref a ∧ SqL I.K H a vs ∧ RepWs I M (mask S M H) ws vs := by
  unfold lsOf at e
  split at e
  · cases e
    cases r with
    | lst h q => exact ⟨_, _, rfl, .inl (.inl (mask_ex _ _ h)), reps_map q⟩
  · cases e
    cases r with
    | lsx h q => exact ⟨_, _, rfl, ex_l mask_ex h, reps_map q⟩
  · split at e
    · rename_i y i hc
      cases e
      obtain ⟨a, ea, rfl⟩ := r
      obtain ⟨vs, ho, q⟩ := sim.cell _ _ a hc ea
      exact ⟨a, vs, rfl, .inl (.inl ho), q⟩
    · cases e
  · cases e
theorem c_len : CallR X (.builtin "len") (rdCall ⟨X.K, I.G, I.fl⟩ gLen) := by
  intro pins s σ H vs us Q In r hh
  obtain ⟨ws, S, M, sim, rw', p⟩ := hh
  unfold gLen at p
  split at p
  · split at p
    · obtain ⟨v, rfl, rv⟩ := rw'.one
      cases rv
      exact call_len_str pins s σ H _ us Q In r ⟨_, rfl, by assumption, p.here sim (.int _)⟩
    · exact p.elim
  · split at p
    · obtain ⟨v, rfl, rv⟩ := rw'.one
      obtain ⟨a, vs, rfl, h, q⟩ := seqOf_at sim rv (by assumption)
      rw [Paired.length q] at p
      exact call_len_seq pins s σ H _ us Q In r ⟨a, vs, rfl, h, p.here sim (.int _)⟩
    · exact p.elim
  · exact p.elim
theorem c_abs : CallR X (.builtin "abs") (rdCall I gAbs) := by
  intro pins s σ H vs us Q In r hh
  obtain ⟨ws, S, M, sim, rw', p⟩ := hh
  unfold gAbs at p
  split at p
  · obtain ⟨v, rfl, rv⟩ := rw'.one
    cases rv
    exact call_abs pins s σ H _ us Q In r ⟨_, rfl, p.here sim (.int _)⟩
  · exact p.elim
theorem c_max2 (hc : X.calm = true) : CallR X (.builtin "max") (rdCall I gMax2) := by
  intro pins s σ H vs us Q In r hh
  obtain ⟨ws, S, M, sim, rw', p⟩ := hh
  unfold gMax2 at p
  split at p
  · obtain ⟨v, u, rfl, rv, ru⟩ := rw'.two
    cases rv
    cases ru
    exact call_max2 hc pins s σ H _ us Q In r ⟨_, _, rfl, p.here sim (.int _)⟩
  · exact p.elim
theorem c_min2 (hc : X.calm = true) : CallR X (.builtin "min") (rdCall I gMin2) := by
  intro pins s σ H vs us Q In r hh
  obtain ⟨ws, S, M, sim, rw', p⟩ := hh
  unfold gMin2 at p
  split at p
  · obtain ⟨v, u, rfl, rv, ru⟩ := rw'.two
    cases rv
    cases ru
    exact call_min2 hc pins s σ H _ us Q In r ⟨_, _, rfl, p.here sim (.int _)⟩
  · exact p.elim
theorem c_int : CallR X (.type "int") (rdCall I gInt) := by
  intro pins s σ H vs us Q In r hh
  obtain ⟨ws, S, M, sim, rw', p⟩ := hh
  unfold gInt at p
  split at p
  · obtain ⟨v, rfl, rv⟩ := rw'.one
    cases rv
    exact call_int1 pins s σ H _ us Q In r (.inl ⟨_, rfl, p.here sim (.int _)⟩)
  · obtain ⟨v, rfl, rv⟩ := rw'.one
    cases rv
    exact call_int1 pins s σ H _ us Q In r (.inr ⟨_, rfl, p.here sim (.int _)⟩)
  · exact p.elim
theorem c_str : CallR X (.type "str") (rdCall I gStr) := by
  intro pins s σ H vs us Q In r hh
  obtain ⟨ws, S, M, sim, rw', p⟩ := hh
  unfold gStr at p
  split at p
  · split at p
    · obtain ⟨v, rfl, rv⟩ := rw'.one
      cases rv
      exact call_str_int pins s σ H _ us Q In r ⟨_, rfl, by assumption, p.here sim (.str _)⟩
    · exact p.elim
  · exact p.elim
theorem c_tuple : CallR X (.type "tuple") (rdCall ⟨X.K, I.G, I.fl⟩ gTuple) := by
  intro pins s σ H vs us Q In r hh
  obtain ⟨ws, S, M, sim, rw', p⟩ := hh
  unfold gTuple at p
  split at p
  · obtain ⟨v, rfl, rv⟩ := rw'.one
    cases rv with
    | tup h q => exact call_tuple_of pins s σ H _ us Q In r ⟨_, _, rfl, .inr ⟨ex_t mask_ex h, p.here sim (.tup h q)⟩⟩
  · split at p
    · rename_i ws hw
      split at p
      · rename_i xs hx
        obtain ⟨v, rfl, rv⟩ := rw'.one
        obtain ⟨a, vs, rfl, h, q⟩ := lsOf_at sim rv hw
        exact call_tuple_of pins s σ H _ us Q In r ⟨_, _, rfl, .inl ⟨h, fun l nl => new_d p sim nl fun H' hl ex => .tup (.inl (.inl hl)) ((plainL_rep q hx).mono ex)⟩⟩
      · exact p.elim
    · exact p.elim
  · exact p.elim
theorem c_list : CallR X (.type "list") (rdCall ⟨X.K, I.G, I.fl⟩ gList) := by
  intro pins s σ H vs us Q In r hh
  obtain ⟨ws, S, M, sim, rw', p⟩ := hh
  unfold gList at p
  split at p
  · split at p
    · rename_i ws hw
      split at p
      · rename_i xs hx
        obtain ⟨v, rfl, rv⟩ := rw'.one
        obtain ⟨a, vs, rfl, h, q⟩ := seqOf_at sim rv hw
        exact call_list_of pins s σ H _ us Q In r ⟨_, _, rfl, h, fun l nl => new_d p sim nl fun H' hl ex => .lst hl ((plainL_rep q hx).mono ex)⟩
      · exact p.elim
    · exact p.elim
  · exact p.elim
theorem c_listC : CallR X (.type "list") (rdCall ⟨X.K, I.G, I.fl⟩ gListC) := by
  intro pins s σ H vs us Q In r hh
  obtain ⟨ws, S, M, sim, rw', p⟩ := hh
  unfold gListC at p
  split at p
  · split at p
    · rename_i ws hw
      obtain ⟨v, rfl, rv⟩ := rw'.one
      obtain ⟨a, vs, rfl, h, q⟩ := seqOf_at sim rv hw
      exact call_list_of pins s σ H _ us Q In r ⟨_, _, rfl, h, fun l nl => new_c p sim nl (lows_of sim q) ⟨_, rfl, q⟩ (by intro z; cases z)⟩
    · exact p.elim
  · exact p.elim
/-! ### of a list of ints, of bools -/
def intsL : List W → Option (List Int)
  | [] => some []
  | .d (.int i) :: r => (intsL r).map (i :: ·)
  | _ => none
def boolsL : List W → Option (List Bool)
  | [] => some []
  | .d (.bl i) :: r => (boolsL r).map (i :: ·)
  | _ => none
theorem intsL_map : ∀ {ns : List Int}, intsL ((ns.map D.int).map W.d) = some ns
  | [] => rfl
  | n :: ns => by
    rw [List.map_cons, List.map_cons, intsL, intsL_map]
    rfl
theorem boolsL_map : ∀ {ns : List Bool}, boolsL ((ns.map D.bl).map W.d) = some ns
  | [] => rfl
  | n :: ns => by
    rw [List.map_cons, List.map_cons, boolsL, boolsL_map]
    rfl
theorem intsL_rep {M : List Addr} {H : Hp} : ∀ {ws : List W} {vs : List V} {ns : List Int}, RepWs I M H ws vs → intsL ws = some ns → vs = ns.map V.int
  | [], _, _, .nil, e => by cases e; rfl
  | .d (.int i) :: ws, _, ns, .cons r t, e => by
    rw [intsL] at e
    cases q : intsL ws with
    | none => rw [q] at e; cases e
    | some ms =>
      rw [q] at e
      cases e
      cases r
      rw [intsL_rep t q]
      rfl
theorem boolsL_rep {M : List Addr} {H : Hp} : ∀ {ws : List W} {vs : List V} {ns : List Bool}, RepWs I M H ws vs → boolsL ws = some ns → vs = ns.map V.bl
  | [], _, _, .nil, e => by cases e; rfl
  | .d (.bl i) :: ws, _, ns, .cons r t, e => by
    rw [boolsL] at e
    cases q : boolsL ws with
    | none => rw [q] at e; cases e
    | some ms =>
      rw [q] at e
      cases e
      cases r
      rw [boolsL_rep t q]
      rfl
def sortI (ns : List Int) : List Int := ns.mergeSort fun a b => decide (a ≤ b)
theorem sortI_eq {ns ms : List Int} (h : ms.Perm ns) (p : ms.Pairwise (· ≤ ·)) : ms = sortI ns := by
  refine List.Perm.eq_of_pairwise (le := (· ≤ ·)) (fun a b _ _ h1 h2 => Int.le_antisymm h1 h2) p ?_ (h.trans (List.mergeSort_perm ns _).symm)
  have := List.pairwise_mergeSort (le := fun (a b : Int) => decide (a ≤ b)) (fun a b c h1 h2 => by simp at *; omega) (fun a b => by simp; omega) ns
  exact this.imp fun h => by simpa using h
def gMax1 : List W → Sto → R W
  | [x], S => match (lsOf x S).bind intsL with
    | some ns => match ns.max? with
      | some m => .ok (.d (.int m)) S
      | none => .bad
    | none => .bad
  | _, _ => .bad
def gSum : List W → Sto → R W
  | [x], S => match (lsOf x S).bind intsL with
    | some ns => .ok (.d (.int ns.sum)) S
    | none => .bad
  | _, _ => .bad
def gSort : List W → Sto → R W
  | [x], S => match (lsOf x S).bind intsL with
    | some ns => .ok (.d (.lst ((sortI ns).map D.int))) S
    | none => .bad
  | _, _ => .bad
def gAny : List W → Sto → R W
  | [x], S => match (lsOf x S).bind boolsL with
    | some ns => .ok (.d (.bl (ns.any _root_.id))) S
    | none => .bad
  | _, _ => .bad
def gAll : List W → Sto → R W
  | [x], S => match (lsOf x S).bind boolsL with
    | some ns => .ok (.d (.bl (ns.all _root_.id))) S
    | none => .bad
  | _, _ => .bad
theorem ints_at {S : Sto} {M : List Addr} {H : Hp} {x : W} {v : V} {ns : List Int} (sim : Sim I S M H) (r : RepW I M (mask S M H) x v) (e : (lsOf x S).bind intsL = some ns) : ∃ a, v = .ref a ∧ SqL I.K H a (ns.map V.int) := by
  cases q : lsOf x S with
  | none => rw [q] at e; cases e
  | some ws =>
    rw [q] at e
    obtain ⟨a, vs, rfl, h, t⟩ := lsOf_at sim r q
    rw [intsL_rep t e] at h
    exact ⟨a, rfl, h⟩
theorem bools_at {S : Sto} {M : List Addr} {H : Hp} {x : W} {v : V} {ns : List Bool} (sim : Sim I S M H) (r : RepW I M (mask S M H) x v) (e : (lsOf x S).bind boolsL = some ns) : ∃ a, v = .ref a ∧ SqL I.K H a (ns.map V.bl) := by
  cases q : lsOf x S with
  | none => rw [q] at e; cases e
  | some ws =>
    rw [q] at e
    obtain ⟨a, vs, rfl, h, t⟩ := lsOf_at sim r q
    rw [boolsL_rep t e] at h
    exact ⟨a, rfl, h⟩
theorem reps_ints {H : Hp} : ∀ {ns : List Int}, Reps I H (ns.map D.int) (ns.map V.int)
  | [] => .nil
  | n :: ns => .cons (.int n) reps_ints
theorem c_max1 (hc : X.calm = true) : CallR X (.builtin "max") (rdCall ⟨X.K, I.G, I.fl⟩ gMax1) := by
  intro pins s σ H vs us Q In r hh
  obtain ⟨ws, S, M, sim, rw', p⟩ := hh
  unfold gMax1 at p
  split at p
  · split at p
    · rename_i ns hn
      split at p
      · rename_i m hm
        obtain ⟨v, rfl, rv⟩ := rw'.one
        obtain ⟨a, rfl, h⟩ := ints_at sim rv hn
        obtain ⟨m1, m2⟩ := List.max?_eq_some_iff.mp hm
        refine cr_max hc pins s σ H _ us Q In r ⟨a, ns, rfl, h, List.length_pos_of_mem m1, fun m' h1 h2 => ?_⟩
        have : m' = m := Int.le_antisymm (m2 _ h1) (h2 _ m1)
        subst this
        exact p.here sim (.int _)
      · exact p.elim
    · exact p.elim
  · exact p.elim
theorem c_sum (hc : X.calm = true) : CallR X (.builtin "sum") (rdCall ⟨X.K, I.G, I.fl⟩ gSum) := by
  intro pins s σ H vs us Q In r hh
  obtain ⟨ws, S, M, sim, rw', p⟩ := hh
  unfold gSum at p
  split at p
  · split at p
    · rename_i ns hn
      obtain ⟨v, rfl, rv⟩ := rw'.one
      obtain ⟨a, rfl, h⟩ := ints_at sim rv hn
      exact cr_sum hc pins s σ H _ us Q In r ⟨a, ns, rfl, h, p.here sim (.int _)⟩
    · exact p.elim
  · exact p.elim
theorem c_any (hc : X.calm = true) : CallR X (.builtin "any") (rdCall ⟨X.K, I.G, I.fl⟩ gAny) := by
  intro pins s σ H vs us Q In r hh
  obtain ⟨ws, S, M, sim, rw', p⟩ := hh
  unfold gAny at p
  split at p
  · split at p
    · rename_i ns hn
      obtain ⟨v, rfl, rv⟩ := rw'.one
      obtain ⟨a, rfl, h⟩ := bools_at sim rv hn
      exact cr_any hc pins s σ H _ us Q In r ⟨a, ns, rfl, h, p.here sim (.bl _)⟩
    · exact p.elim
  · exact p.elim
theorem c_all (hc : X.calm = true) : CallR X (.builtin "all") (rdCall ⟨X.K, I.G, I.fl⟩ gAll) := by
  intro pins s σ H vs us Q In r hh
  obtain ⟨ws, S, M, sim, rw', p⟩ := hh
  unfold gAll at p
  split at p
  · split at p
    · rename_i ns hn
      obtain ⟨v, rfl, rv⟩ := rw'.one
      obtain ⟨a, rfl, h⟩ := bools_at sim rv hn
      exact cr_all hc pins s σ H _ us Q In r ⟨a, ns, rfl, h, p.here sim (.bl _)⟩
    · exact p.elim
  · exact p.elim
theorem c_sorted : CallR X (.builtin "sorted") (rdCall ⟨X.K, I.G, I.fl⟩ gSort) := by
  intro pins s σ H vs us Q In r hh
  obtain ⟨ws, S, M, sim, rw', p⟩ := hh
  unfold gSort at p
  split at p
  · split at p
    · rename_i ns hn
      obtain ⟨v, rfl, rv⟩ := rw'.one
      obtain ⟨a, rfl, h⟩ := ints_at sim rv hn
      refine cr_sortedI pins s σ H _ us Q In r ⟨a, ns, rfl, h, fun ms l hp hs nl => ?_⟩
      rw [sortI_eq hp hs]
      exact new_d p sim nl fun H' hl ex => .lst hl reps_ints
    · exact p.elim
  · exact p.elim
/-! ### isinstance -/
inductive Ty where
  | non | bl | int | str | tup | lst | dct | cls (c : Nat)
@[simp] def tyOf : W → Sto → Option Ty
  | .d .non, _ => some .non
  | .d (.bl _), _ => some .bl
  | .d (.int _), _ => some .int
  | .d (.str _), _ => some .str
  | .d (.tup _), _ => some .tup
  | .d (.lst _), _ => some .lst
  | .d (.lsx _), _ => some .lst
  | .d (.obj c _), _ => some (.cls c)
  | .d (.dK _), _ => some .dct
  | .d (.dT _), _ => some .dct
  | .c i, S => match S[i]? with
    | some (.lst _) => some .lst
    | some (.ins c _) => some (.cls c)
    | some (.dK _) => some .dct
    | some (.dT _) => some .dct
    | _ => none
def Ty.nm : Ty → String
  | .non => "NoneType" | .bl => "bool" | .int => "int" | .str => "str" | .tup => "tuple" | .lst => "list" | .dct => "dict" | .cls _ => ""
/-- is t of the built-in type T -/
@[simp] def isT : Ty → Ty → Bool
  | .non, .non => true | .bl, .bl => true | .bl, .int => true | .int, .int => true | .str, .str => true | .tup, .tup => true | .lst, .lst => true | .dct, .dct => true
  | _, _ => false
@[simp] def dIsT (T : Ty) (a : DE) : DE := fun e S => (a e S).bind fun x S1 => match tyOf x S1 with
  | some t => .ok (.d (.bl (isT t T))) S1
  | none => .bad
@[simp] def dIsC (sub : Nat → Nat → Bool) (c : Nat) (a : DE) : DE := fun e S => (a e S).bind fun x S1 => match tyOf x S1 with
  | some (.cls c') => .ok (.d (.bl (sub c' c))) S1
  | some _ => .ok (.d (.bl false)) S1
  | none => .bad
theorem kitb (t T : Ty) (h1 : t.nm ≠ "") (h2 : T.nm ≠ "") : kitB t.nm T.nm = some (isT t T) := by
  cases t <;> cases T <;> first | exact absurd rfl h1 | exact absurd rfl h2 | decide +kernel
theorem nm_mem (t : Ty) (h : t.nm ≠ "") : t.nm ∈ ["NoneType", "bool", "int", "str", "tuple", "list", "dict"] := by
  cases t <;> first | exact absurd rfl h | simp [Ty.nm]
/-- a value's type -/
theorem ty_at (t : Cok J X w F Fi k) {S : Sto} {M : List Addr} {H : Hp} {x : W} {v : V} {y : Ty} (sim : Sim (J.inf X.K) S M H) (r : RepW (J.inf X.K) M (mask S M H) x v) (e : tyOf x S = some y) :
    (y.nm ≠ "" ∧ TyX X.K H v (.type y.nm)) ∨ ∃ c C, y = .cls c ∧ J.G c = some C ∧ TyX X.K H v (.ref C) := by
  have lstX : ∀ {a : Addr} {vs : List V}, SqL X.K H a vs → TyX X.K H (.ref a) (.type "list") := fun {a vs} h => by
    rcases h with (h | ⟨o, h⟩) | ⟨o, its, n, h1, h2, _⟩
    · exact .base (.lst h)
    · exact .base (.frz h)
    · exact .kList h1 h2
  unfold tyOf at e
  split at e
  · cases e; cases r; exact .inl ⟨by decide, .base .non⟩
  · cases e; cases r; exact .inl ⟨by decide, .base (.bl _)⟩
  · cases e; cases r; exact .inl ⟨by decide, .base (.int _)⟩
  · cases e; cases r; exact .inl ⟨by decide, .base (.str _)⟩
  · cases e
    cases r with
    | tup h q =>
      refine .inl ⟨by decide, ?_⟩
      rcases ex_t mask_ex h with (h | ⟨o, h⟩) | ⟨o, its, n, h1, h2, _⟩
      · exact .base (.tup h)
      · exact .fTuple h
      · exact .kTuple h1 h2
  · cases e
    cases r with
    | lst h q => exact .inl ⟨by decide, lstX (.inl (.inl (mask_ex _ _ h)))⟩
  · cases e
    cases r with
    | lsx h q => exact .inl ⟨by decide, lstX (ex_l mask_ex h)⟩
  · cases e
    cases r with
    | obj g h l q =>
      obtain ⟨t1, t2, t3, t4⟩ := t.ty _ _ g
      exact .inr ⟨_, _, rfl, g, .base (.ins (mask_ex _ _ h) (t.cls _ _ g) t1 t2 t3 t4)⟩
  · cases e
    cases r with
    | dK h q => exact .inl ⟨by decide, .base (.dK (mask_ex _ _ h))⟩
  · cases e
    cases r with
    | dT h q => exact .inl ⟨by decide, .base (.dT (mask_ex _ _ h))⟩
  · obtain ⟨a, ea, rfl⟩ := r
    split at e
    · cases e
      obtain ⟨vs, ho, q⟩ := sim.cell _ _ a (by assumption) ea
      exact .inl ⟨by decide, lstX (.inl (.inl ho))⟩
    · cases e
      obtain ⟨C, dx, vs, g, h, l, q⟩ := sim.cell _ _ a (by assumption) ea
      obtain ⟨t1, t2, t3, t4⟩ := t.ty _ _ g
      exact .inr ⟨_, _, rfl, g, .base (.ins h (t.cls _ _ g) t1 t2 t3 t4)⟩
    · cases e
      obtain ⟨us, h, q⟩ := sim.cell _ _ a (by assumption) ea
      exact .inl ⟨by decide, .base (.dK h)⟩
    · cases e
      obtain ⟨us, h, q⟩ := sim.cell _ _ a (by assumption) ea
      exact .inl ⟨by decide, .base (.dT h)⟩
    · cases e
theorem sx_isT {n : String} {xt : Str} {pt : Pos} {T' : Ty} (t : Cok J X w F Fi k) (hn : T'.nm = n) (h2 : T'.nm ≠ "") (hb : J.sg.blt "isinstance" = true) (hb2 : J.sg.blt xt = true) (hv : bootBuiltins xt = some (.type n)) (ha : PE X a (rdE (J.inf X.K) w da)) (hg : Gl X "isinstance" := by rfl) (hg2 : Gl X xt := by rfl) (hn2 : xt ≠ "__name__" := by decide) (hdb2 : (xt == ("__debug__" : Str)) = false := by decide)
    (he : starEach [a, .Name xt pt] X.env = (false, eval a X.env) :: starEach [.Name xt pt] X.env := by rfl) (hpl : (backTo pos (starEach [.Name xt pt] X.env)).any (·.1) = false := by rfl) : PE X (.Call (.Name "isinstance" p) [a, .Name xt pt] [] pos) (rdE (J.inf X.K) w (dIsT T' da)) :=
  PE_imp (pe_callB call_isi hg (t.glb _ hb) (by decide +kernel) (pa_cons ha (pa_cons (pe_bltn (v := .ty n) hg2 (t.glb _ hb2) hv rfl hn2 hdb2) pa_nil) he) (by decide) (by decide) he hpl) fun σ H Q q =>
    rd_one (rel := RepW (J.inf X.K)) (f := fun _ x S1 => match tyOf x S1 with
  | some t => .ok (W.d (.bl (isT t T'))) S1
  | none => .bad) q fun x v e S M H s sl r p => by
    split at p
    · rename_i y hy
      show ∃ (x c : V) (t u : Value) (b : Bool), [v, V.ty n] = [x, c] ∧ ClsV c u ∧ TyX X.K H x t ∧ PySem.W.kitOne X.K t u = some b ∧ Q (.bl b) H
      rcases ty_at t s r hy with ⟨h, ty⟩ | ⟨c, C, rfl, g, ty⟩
      · exact ⟨v, .ty n, _, .type n, _, rfl, .ty n, ty, by rw [← hn]; exact kit_ty (kitb y T' h h2), p.here s (.bl _)⟩
      · refine ⟨v, .ty n, _, .type n, _, rfl, .ty n, ty, by rw [← hn]; exact t.ist _ _ _ (nm_mem T' h2) g, ?_⟩
        have e : isT (.cls c) T' = false := by cases T' <;> rfl
        rw [e] at p
        exact p.here s (.bl _)
    · exact p.elim
theorem sx_isC {xt : Str} {pt : Pos} {c : Nat} (t : Cok J X w F Fi k) (hb : J.sg.blt "isinstance" = true) (hc : J.sg.cn xt = some c) (ha : PE X a (rdE (J.inf X.K) w da)) (hg : Gl X "isinstance" := by rfl) (hg2 : Gl X xt := by rfl) (hdb2 : (xt == ("__debug__" : Str)) = false := by decide)
    (he : starEach [a, .Name xt pt] X.env = (false, eval a X.env) :: starEach [.Name xt pt] X.env := by rfl) (hpl : (backTo pos (starEach [.Name xt pt] X.env)).any (·.1) = false := by rfl) : PE X (.Call (.Name "isinstance" p) [a, .Name xt pt] [] pos) (rdE (J.inf X.K) w (dIsC J.sg.sub c da)) := by
  obtain ⟨C, g, hm⟩ := t.cnm xt c hc
  refine PE_imp (pe_callB call_isi hg (t.glb _ hb) (by decide +kernel) (pa_cons ha (pa_cons (pe_glob (v := .ref C) hg2 hm rfl hdb2) pa_nil) he) (by decide) (by decide) he hpl) fun σ H Q q =>
    rd_one (rel := RepW (J.inf X.K)) (f := fun _ x S1 => match tyOf x S1 with
  | some (.cls c') => .ok (W.d (.bl (J.sg.sub c' c))) S1
  | some _ => .ok (W.d (.bl false)) S1
  | none => .bad) q fun x v e S M H s sl r p => ?_
  show ∃ (x c : V) (t u : Value) (b : Bool), [v, V.ref C] = [x, c] ∧ ClsV c u ∧ TyX X.K H x t ∧ PySem.W.kitOne X.K t u = some b ∧ Q (.bl b) H
  split at p
  · rename_i c' hy
    rcases ty_at t s r hy with ⟨h, ty⟩ | ⟨c2, C2, e2, g2, ty⟩
    · exact absurd rfl h
    · cases e2
      exact ⟨v, .ref C, _, .ref C, _, rfl, .own C, ty, t.isc _ _ _ _ g2 g, p.here s (.bl _)⟩
  · rename_i y hy hne
    rcases ty_at t s r hne with ⟨h, ty⟩ | ⟨c2, C2, e2, g2, ty⟩
    · exact ⟨v, .ref C, _, .ref C, _, rfl, .own C, ty, t.isb _ _ _ (nm_mem _ h) g, p.here s (.bl _)⟩
    · exact absurd e2 (hy c2)
  · exact p.elim
end
end Py

/-! Py8: slices; operators of one's own. -/
namespace Py
open PySem PySem.Spec PyProof.Rows L2
abbrev DO := Env → Sto → R (Option Int)
@[simp] def oNone : DO := fun _ S => .ok none S
@[simp] def oSome (a : DE) : DO := fun e S => (a e S).bind fun x S1 => match x with
  | .d (.int i) => .ok (some i) S1
  | _ => .bad
def cutL {α : Type} (xs : List α) (lo hi : Option Int) : List α := (xs.drop (HT.sIx xs.length 0 lo)).take (HT.sIx xs.length xs.length hi - HT.sIx xs.length 0 lo)
@[simp] def slc : W → Option Int → Option Int → Sto → R W
  | .d (.str x), lo, hi, S => if x.length ≤ sizeLine then .ok (.d (.str (cutS x lo hi))) S else .bad
  | .d (.tup xs), lo, hi, S => .ok (.d (.tup (cutL xs lo hi))) S
  | x, lo, hi, S => match lsOf x S with
    | some ws => match plainL ws with
      | some xs => .ok (.d (.lst (cutL xs lo hi))) S
      | none => .bad
    | none => .bad
@[simp] def dSl (a : DE) (lo hi : DO) : DE := fun e S => (a e S).bind fun x S1 => (lo e S1).bind fun l S2 => (hi e S2).bind fun u S3 => slc x l u S3
section
variable {J : Jn} {X : Cx} {I : Inf} {w : WX} {F Fi : FnTab} {k : Nat} {a b c e : Expr} {es rest : List Expr} {da db dc : DE} {dr : DA} {pos p p2 : Pos} {lo hi : Option Expr} {dl dh : DO}
def rdO (I : Inf) (w : WX) (d : DO) : TO := fun σ H Q => ∃ (env : Env) (S : Sto) (M : List Addr), Sim I S M H ∧ Slots I M (mask S M H) env σ ∧ EndR I S M H (fun _ _ a b => a = b) Q (fun cls dd H' => w cls dd σ H') (d env S)
theorem PO_imp {e : Option Expr} {t t' : TO} (h : PO X e t) (i : ∀ σ H Q, t' σ H Q → t σ H Q) : PO X e t' := ⟨fun pins s σ H Q I q => h.run pins s σ H Q I (i σ H Q q)⟩
theorem so_none : PO X none (rdO I w oNone) := PO_imp po_none fun σ H Q ⟨e, S, M, s, sl, p⟩ => EndR.here (rel := fun _ _ a b => a = b) p s rfl
theorem so_some (h : PE X a (rdE I w da)) : PO X (some a) (rdO I w (oSome da)) := PO_imp (po_some h) fun σ H Q q => rd_one (rel := fun _ _ a b => a = b) (f := fun _ x S1 => match x with
  | .d (.int i) => .ok (some i) S1
  | _ => .bad) q fun x v e S M H s sl r p => by
    split at p
    · cases r
      exact ⟨_, rfl, p.here s rfl⟩
    · exact p.elim
def rdSl (I : Inf) : V → Option Int → Option Int → Hp → VK → Prop := fun v lo hi H Q => ∃ (x : W) (S : Sto) (M : List Addr), Sim I S M H ∧ RepW I M (mask S M H) x v ∧ EndR I S M H (RepW I) Q E0 (slc x lo hi S)
theorem Reps.cut {H : Hp} {xs : List D} {vs : List V} (r : Reps I H xs vs) (lo hi : Option Int) : Reps I H (cutL xs lo hi) (cutV vs lo hi) := by
  unfold cutL cutV
  rw [r.len]
  exact (r.drop _).take _
theorem cut_whole {α : Type} {xs : List α} {lo hi : Option Int} (h : HT.sIx xs.length 0 lo = 0 ∧ HT.sIx xs.length xs.length hi = xs.length) : cutL xs lo hi = xs := by
  unfold cutL
  rw [h.1, h.2]
  simp
theorem sl_all : SlR X (rdSl ⟨X.K, I.G, I.fl⟩) := by
  intro pins s σ H v u vl vu lo hi sl Q In rv hs pl pu hh
  obtain ⟨x, S, M, sim, rx, p⟩ := hh
  unfold slc at p
  split at p
  · split at p
    · cases rx
      exact sl_str pins s σ H _ u vl vu lo hi sl Q In rv hs pl pu ⟨_, rfl, by assumption, p.here sim (.str _)⟩
    · exact p.elim
  · cases rx with
    | tup h r =>
      refine sl_tupA pins s σ H _ u vl vu lo hi sl Q In rv hs pl pu ⟨_, _, rfl, ex_t mask_ex h, fun e => ?_, fun _ q nq => new_d p sim nq fun H' hl ex => .tup (.inl (.inl hl)) ((r.cut lo hi).mono ex)⟩
      rw [← r.len] at e
      rw [cut_whole e] at p
      exact p.here sim (.tup h r)
  · split at p
    · rename_i ws hw
      split at p
      · rename_i xs hx
        obtain ⟨a, vs, rfl, h, q⟩ := lsOf_at sim rx hw
        exact sl_list pins s σ H _ u vl vu lo hi sl Q In rv hs pl pu ⟨a, vs, rfl, h, fun q' nq => new_d p sim nq fun H' hl ex => .lst hl (((plainL_rep q hx).cut lo hi).mono ex)⟩
      · exact p.elim
    · exact p.elim
theorem slc_ne (x : W) (lo hi : Option Int) (S : Sto) : slc x lo hi S = (slc x lo hi S).ne := by
  unfold slc
  repeat' split
  all_goals rfl
theorem sx_sl (ha : PE X a (rdE ⟨X.K, I.G, I.fl⟩ w da)) (hl : PO X lo (rdO ⟨X.K, I.G, I.fl⟩ w dl)) (hh : PO X hi (rdO ⟨X.K, I.G, I.fl⟩ w dh)) : PE X (.Subscript a (.Slice lo hi none p2) pos) (rdE ⟨X.K, I.G, I.fl⟩ w (dSl da dl dh)) :=
  PE_imp (pe_slice sl_all ha hl hh) fun σ H Q q => by
    obtain ⟨e, S, M, sim, sl, p⟩ := q
    refine ⟨e, S, M, sim, sl, (EndR.bind (rel1 := RepW ⟨X.K, I.G, I.fl⟩) p).imp fun v H1 ⟨x, S1, M1, l1, s1, r1, p1⟩ => ?_⟩
    refine ⟨e, S1, M1, s1, sl.mono l1, (EndR.bind (rel1 := fun _ _ a b => a = b) p1).imp fun y H2 ⟨y', S2, M2, l2, s2, r2, p2⟩ => ?_⟩
    subst r2
    refine ⟨e, S2, M2, s2, (sl.mono l1).mono l2, (EndR.bind (rel1 := fun _ _ a b => a = b) p2).imp fun z H3 ⟨z', S3, M3, l3, s3, r3, p3⟩ => ?_⟩
    subst r3
    exact ⟨x, S3, M3, s3, (r1.mono l2).mono l3, noE (slc_ne _ _ _ _) p3⟩
end
/-! ### a method of a class, called by values -/
section
variable {J : Jn} {X : Cx} {w : WX} {F Fi : FnTab} {k : Nat}
/-- an operator that the class c has as the method f; else g -/
@[simp] def opO (F : FnTab) (c f : Nat) (g : W → W → Sto → R W) : W → W → Sto → R W
  | .d (.obj c1 xs), .d (.obj c2 ys), S => if c1 = c ∧ c2 = c then F f [.d (.obj c1 xs), .d (.obj c2 ys)] S else .bad
  | x, y, S => g x y S
@[simp] def unO (F : FnTab) (c f : Nat) (g : W → Sto → R W) : W → Sto → R W
  | .d (.obj c1 xs), S => if c1 = c then F f [.d (.obj c1 xs)] S else .bad
  | x, S => g x S
theorem rel_ref {a : Addr} : RelV (.ref a) (.ref a) := rfl
theorem cmpBack_of {Q : VK} {pins : List (Addr × Obj)} {σ : L2.St} {v : Value} {s' : Shared} (h : EP X pins σ Q v s') : PySem.W.CmpBack (EP X pins σ Q) v s' := by
  obtain ⟨x, H', I', r, q⟩ := id h
  cases x <;> first
    | (obtain ⟨t, rfl⟩ := r; exact h)
    | (cases r; exact h)
theorem obj_look {I : Inf} {pins : List (Addr × Obj)} {σ : L2.St} {H : Hp} {s : Shared} {a C dx : Addr} {fs : List (Str × V)} (In : Inv X pins σ H s) (h : H a = some (.ins C dx fs)) : ∃ od, PySem.W.InstAt s.heap a (PySem.W.instObj C dx) C (some od) := by
  obtain ⟨mA, O, _⟩ := ins_get In.hok h
  obtain ⟨od, J, _⟩ := O.look
  exact ⟨od, J⟩
theorem run_m (t : Cok J X w F Fi k) {f c n : Nat} {m : Str} {fa : Addr} {fd : FuncData} {ps : List Str} (h3 : FnOk X.prog X.w X.K X.mg X.base (L2.CX X.prog X.w) (k + 1) fa fd ps (spOf (J.inf X.K) F f n)) (h4 : Binds X.K fd ps [])
    {pins : List (Addr × Obj)} {σ : L2.St} {H : Hp} {s : Shared} {Q : VK} {us : List Value} {vs : List V} {ws : List W} {S : Sto} {M : List Addr} (In : Inv X pins σ H s) (r : Vals vs us) (hl : vs.length = n) (sim : Sim (J.inf X.K) S M H) (rw' : RepWs (J.inf X.K) M (mask S M H) ws vs) (p : EndR (J.inf X.K) S M H (RepW (J.inf X.K)) Q E0 (F f ws S)) :
    wpAny (model X.prog X.w) X.A (call (.ref fa) us) (EP X pins σ Q) X.xe s :=
  run_fn (dvs := []) (E := E0) h3 t.room h4 .nil passL In r (by rw [List.append_nil]; exact ⟨hl, ws, S, M, sim, rw', p⟩)
theorem o_own (t : Cok J X w F Fi k) {op : Operator} {g : W → W → Sto → R W} {f c : Nat} {m : Str} (h : J.sg.mt f = some (c, m, 2)) (hm : m = PySem.dunder op.info.2) (hg : OpR X (binaryOp op) (rdOp (J.inf X.K) g)) : OpR X (binaryOp op) (rdOp (J.inf X.K) (opO F c f g)) := by
  intro pins s σ H v u ov ou Q In rv ru hh
  obtain ⟨x, y, S, M, sim, rx, ry, p⟩ := hh
  unfold opO at p
  split at p
  · split at p
    · rename_i hc
      obtain ⟨rfl, rfl⟩ := hc
      obtain ⟨C, fa, fd, ps, h1, h2, h3, h4⟩ := t.meth f _ m 2 h
      have rx0 := rx
      have ry0 := ry
      cases rx with
      | obj g1 e1 l1 q1 =>
      cases ry with
      | obj g2 e2 l2 q2 =>
      have eC := h1.symm.trans g1
      cases eC
      have eC := h1.symm.trans g2
      cases eC
      cases rv
      cases ru
      obtain ⟨od, J1⟩ := obj_look (I := J.inf X.K) In (mask_ex _ _ e1)
      obtain ⟨od2, J2⟩ := obj_look (I := J.inf X.K) In (mask_ex _ _ e2)
      obtain ⟨mm, hF⟩ := In.fr
      refine PySem.W.binop_K hF In.ok.mod.kin J1 J2.type (t.sf _ _ h1) (hm ▸ h2.at_) h2.fn ?_
      exact wpAny_mono (run_m (m := m) (c := 0) t h3 h4 In (.cons rel_ref (.cons rel_ref .nil)) rfl sim (.cons rx0 (.cons ry0 .nil)) p) (fun _ _ z => cmpBack_of z) fun _ _ z => z
    · exact p.elim
  · exact hg pins s σ H v u ov ou Q In rv ru ⟨x, y, S, M, sim, rx, ry, p⟩
theorem u_own (t : Cok J X w F Fi k) {g : W → Sto → R W} {f c : Nat} (h : J.sg.mt f = some (c, ("__neg__" : Str), 1)) (hg : UnR X (unaryOp .USub) (rdUn (J.inf X.K) g)) : UnR X (unaryOp .USub) (rdUn (J.inf X.K) (unO F c f g)) := by
  intro pins s σ H v ov Q In rv hh
  obtain ⟨x, S, M, sim, rx, p⟩ := hh
  unfold unO at p
  split at p
  · split at p
    · rename_i hc
      subst hc
      obtain ⟨C, fa, fd, ps, h1, h2, h3, h4⟩ := t.meth f _ _ 1 h
      have rx0 := rx
      cases rx with
      | obj g1 e1 l1 q1 =>
      have eC := h1.symm.trans g1
      cases eC
      cases rv
      obtain ⟨od, J1⟩ := obj_look (I := J.inf X.K) In (mask_ex _ _ e1)
      obtain ⟨mm, hF⟩ := In.fr
      refine PySem.W.ksp_neg hF In.ok.mod.kin J1 h2.at_ h2.fn ?_
      exact run_m (m := "__neg__") (c := 0) t h3 h4 In (.cons rel_ref .nil) rfl sim (.cons rx0 .nil) p
    · exact p.elim
  · exact hg pins s σ H v ov Q In rv ⟨x, S, M, sim, rx, p⟩
theorem tr_own (t : Cok J X w F Fi k) {f c : Nat} (h : J.sg.mt f = some (c, ("__bool__" : Str), 1)) : TruR X (rdTru (J.inf X.K) (truO F c f)) := by
  intro pins s σ H v ov Q In rv hh
  obtain ⟨x, S, M, sim, rx, p⟩ := hh
  unfold truO at p
  split at p
  · split at p
    · rename_i hc
      subst hc
      obtain ⟨C, fa, fd, ps, h1, h2, h3, h4⟩ := t.meth f _ _ 1 h
      have rx0 := rx
      cases rx with
      | obj g1 e1 l1 q1 =>
      have eC := h1.symm.trans g1
      cases eC
      cases rv
      obtain ⟨od, J1⟩ := obj_look (I := J.inf X.K) In (mask_ex _ _ e1)
      obtain ⟨mm, hF⟩ := In.fr
      refine PySem.W.truthy_K hF In.ok.mod.kin J1 h2.at_ h2.fn ?_
      refine wpAny_mono (run_m (m := "__bool__") (c := 0) (Q := fun v H' => ∃ b, v = .bl b ∧ Q b H') t h3 h4 In (.cons rel_ref .nil) rfl sim (.cons rx0 .nil) ?_) (fun r s' z => ?_) fun _ _ z => z
      · split at p
        · rename_i b S' he
          rw [he]
          intro v H' M' l' s' rv'
          cases rv'
          exact ⟨_, rfl, p _ H' M' l' s' rfl⟩
        · exact p.elim
      · obtain ⟨v, H', I', rv', b, rfl, q⟩ := z
        cases rv'
        exact ⟨H', I', q⟩
    · exact p.elim
  · exact tru_plain (I := J.inf X.K) In rv sim rx p
end
end Py

/-! deep equality of plain data; in, not in -/
namespace Py
open PySem PySem.Spec PyProof.Rows L2
mutual
def D.py : D → Option PyData
  | .non => some .none
  | .bl b => some (.bool b)
  | .int i => some (.int i)
  | .str x => some (.str x)
  | .tup xs => (D.pyL xs).map .tuple
  | .lst xs => (D.pyL xs).map .list
  | .lsx xs => (D.pyL xs).map .list
  | .obj _ _ => none
  | .dK _ => none
  | .dT _ => none
def D.pyL : List D → Option (List PyData)
  | [] => some []
  | x :: xs => match D.py x, D.pyL xs with
    | some a, some b => some (a :: b)
    | _, _ => none
end
mutual
theorem dp_of {I : Inf} {H H' : Hp} (ex : Ex H H') : ∀ {x : D} {v : V} {p : PyData}, Rep I H x v → D.py x = some p → Dp I.K H' v p
  | .non, _, _, r, e => by rw [D.py] at e; cases e; cases r; exact .non
  | .bl b, _, _, r, e => by rw [D.py] at e; cases e; cases r; exact .bl _
  | .int i, _, _, r, e => by rw [D.py] at e; cases e; cases r; exact .int _
  | .str x, _, _, r, e => by rw [D.py] at e; cases e; cases r; exact .str _
  | .tup xs, _, _, r, e => by
    rw [D.py] at e
    cases q : D.pyL xs with
    | none => rw [q] at e; cases e
    | some ps =>
      rw [q] at e
      cases e
      cases r with
      | tup h t => exact .tup (ex_t ex h) (dp_all ex t q)
  | .lst xs, _, _, r, e => by
    rw [D.py] at e
    cases q : D.pyL xs with
    | none => rw [q] at e; cases e
    | some ps =>
      rw [q] at e
      cases e
      cases r with
      | lst h t => exact .lst (.inl (.inl (ex _ _ h))) (dp_all ex t q)
  | .lsx xs, _, _, r, e => by
    rw [D.py] at e
    cases q : D.pyL xs with
    | none => rw [q] at e; cases e
    | some ps =>
      rw [q] at e
      cases e
      cases r with
      | lsx h t => exact .lst (ex_l ex h) (dp_all ex t q)
  | .obj c xs, _, _, r, e => by rw [D.py] at e; cases e
  | .dK k, _, _, r, e => by rw [D.py] at e; cases e
  | .dT k, _, _, r, e => by rw [D.py] at e; cases e
theorem dp_all {I : Inf} {H H' : Hp} (ex : Ex H H') : ∀ {xs : List D} {vs : List V} {ps : List PyData}, Reps I H xs vs → D.pyL xs = some ps → DpAll I.K H' vs ps
  | [], _, _, r, e => by rw [D.pyL] at e; cases e; cases r; exact .nil
  | x :: xs, _, _, r, e => by
    rw [D.pyL] at e
    cases r with
    | cons r1 rs =>
      split at e
      · rename_i a b ha hb
        cases e
        exact .cons (dp_of ex r1 ha) (dp_all ex rs hb)
      · cases e
end
/-- a value as plain data -/
def wpy : W → Sto → Option PyData
  | .d x, _ => D.py x
  | .c i, S => match S[i]? with
    | some (.lst ws) => (plainL ws).bind fun xs => (D.pyL xs).map .list
    | _ => none
theorem wpy_dp {I : Inf} {S : Sto} {M : List Addr} {H : Hp} {x : W} {v : V} {p : PyData} (sim : Sim I S M H) (r : RepW I M (mask S M H) x v) (e : wpy x S = some p) : Dp I.K H v p := by
  cases x with
  | d x => exact dp_of mask_ex r e
  | c i =>
    have e : (match S[i]? with
      | some (.lst ws) => (plainL ws).bind fun xs => (D.pyL xs).map PyData.list
      | _ => none) = some p := e
    cases hc : S[i]? with
    | none => rw [hc] at e; cases e
    | some o =>
      rw [hc] at e
      cases o with
      | lst ws =>
        have e : ((plainL ws).bind fun xs => (D.pyL xs).map PyData.list) = some p := e
        cases q : plainL ws with
        | none => rw [q] at e; cases e
        | some xs =>
          rw [q] at e
          cases q2 : D.pyL xs with
          | none => simp [q2] at e
          | some ps =>
            have e : PyData.list ps = p := by simpa [q2] using e
            subst e
            obtain ⟨a, ea, rfl⟩ := r
            obtain ⟨vs, ho, t⟩ := sim.cell _ _ a hc ea
            exact .lst (.inl (.inl ho)) (dp_all mask_ex (plainL_rep t q) q2)
      | dead => cases e
      | ins c ws => cases e
      | dK k => cases e
      | dT k => cases e
def shp (p : PyData) : Bool := SeqAt.shaped p
def opEqD (x y : W) (S : Sto) : R W := match wpy x S, wpy y S with
  | some p, some q => if shp p = true ∧ shp q = true then .ok (.d (.bl (PyData.eqv p q))) S else .bad
  | _, _ => .bad
def opNeD (x y : W) (S : Sto) : R W := match wpy x S, wpy y S with
  | some p, some q => if shp p = true ∧ shp q = true then .ok (.d (.bl (!PyData.eqv p q))) S else .bad
  | _, _ => .bad
theorem o_eqD {X : Cx} {I : Inf} (hu : X.A.units + 64 < cLine) : OpR X (compareOp .Eq) (rdOp ⟨X.K, I.G, I.fl⟩ opEqD) := by
  intro pins s σ H v u ov ou Q In rv ru hh
  obtain ⟨x, y, S, M, sim, rx, ry, p⟩ := hh
  unfold opEqD at p
  split at p
  · rename_i a b ha hb
    split at p
    · rename_i hs
      exact op_eqD hu pins s σ H v u ov ou Q In rv ru ⟨a, b, wpy_dp sim rx ha, wpy_dp sim ry hb, hs.1, hs.2, p.here sim (.bl _)⟩
    · exact p.elim
  · exact p.elim
theorem o_neD {X : Cx} {I : Inf} (hu : X.A.units + 64 < cLine) : OpR X (compareOp .NotEq) (rdOp ⟨X.K, I.G, I.fl⟩ opNeD) := by
  intro pins s σ H v u ov ou Q In rv ru hh
  obtain ⟨x, y, S, M, sim, rx, ry, p⟩ := hh
  unfold opNeD at p
  split at p
  · rename_i a b ha hb
    split at p
    · rename_i hs
      exact op_neD hu pins s σ H v u ov ou Q In rv ru ⟨a, b, wpy_dp sim rx ha, wpy_dp sim ry hb, hs.1, hs.2, p.here sim (.bl _)⟩
    · exact p.elim
  · exact p.elim
def opInD (neg : Bool) (x y : W) (S : Sto) : R W := match wpy x S, wpy y S with
  | some p, some (.list qs) => if shp p = true ∧ shp (.list qs) = true then .ok (.d (.bl (if neg then !(qs.any fun z => PyData.eqv z p) else qs.any fun z => PyData.eqv z p))) S else .bad
  | _, _ => .bad
theorem o_inD {X : Cx} {I : Inf} (hu : X.A.units + 65 < cLine) : OpR X (compareOp .In) (rdOp ⟨X.K, I.G, I.fl⟩ (opInD false)) := by
  intro pins s σ H v u ov ou Q In rv ru hh
  obtain ⟨x, y, S, M, sim, rx, ry, p⟩ := hh
  unfold opInD at p
  split at p
  · rename_i a b ha hb
    split at p
    · rename_i hs
      exact op_inD hu pins s σ H v u ov ou Q In rv ru ⟨a, b, wpy_dp sim rx ha, wpy_dp sim ry hb, hs.1, hs.2, p.here sim (.bl _)⟩
    · exact p.elim
  · exact p.elim
theorem o_notInD {X : Cx} {I : Inf} (hu : X.A.units + 65 < cLine) : OpR X (compareOp .NotIn) (rdOp ⟨X.K, I.G, I.fl⟩ (opInD true)) := by
  intro pins s σ H v u ov ou Q In rv ru hh
  obtain ⟨x, y, S, M, sim, rx, ry, p⟩ := hh
  unfold opInD at p
  split at p
  · rename_i a b ha hb
    split at p
    · rename_i hs
      exact op_notInD hu pins s σ H v u ov ou Q In rv ru ⟨a, b, wpy_dp sim rx ha, wpy_dp sim ry hb, hs.1, hs.2, p.here sim (.bl _)⟩
    · exact p.elim
  · exact p.elim
theorem units65 {k : Nat} {A : Around} (r : Room k A) : A.units + 65 < cLine := by have := r.un; omega
theorem units64 {k : Nat} {A : Around} (r : Room k A) : A.units + 64 < cLine := by have := r.un; omega
/-- == and != of data: scalars, else deep -/
def opEqG (x y : W) (S : Sto) : R W := match x, y with
  | .d a, .d b => match eqS a b with
    | some r => .ok (.d (.bl r)) S
    | none => opEqD x y S
  | _, _ => opEqD x y S
def opNeG (x y : W) (S : Sto) : R W := match x, y with
  | .d a, .d b => match eqS a b with
    | some r => .ok (.d (.bl (!r))) S
    | none => opNeD x y S
  | _, _ => opNeD x y S
theorem o_eqG {X : Cx} {I : Inf} (hu : X.A.units + 64 < cLine) : OpR X (compareOp .Eq) (rdOp ⟨X.K, I.G, I.fl⟩ opEqG) := by
  intro pins s σ H v u ov ou Q In rv ru hh
  obtain ⟨x, y, S, M, sim, rx, ry, p⟩ := hh
  cases x with
  | c i => exact o_eqD (I := I) hu pins s σ H v u ov ou Q In rv ru ⟨_, y, S, M, sim, rx, ry, p⟩
  | d a =>
    cases y with
    | c i => exact o_eqD (I := I) hu pins s σ H v u ov ou Q In rv ru ⟨_, _, S, M, sim, rx, ry, p⟩
    | d b =>
      have p : EndR ⟨X.K, I.G, I.fl⟩ S M H (RepW ⟨X.K, I.G, I.fl⟩) Q E0 (match eqS a b with
        | some r => .ok (.d (.bl r)) S
        | none => opEqD (.d a) (.d b) S) := p
      cases q : eqS a b with
      | none =>
        rw [q] at p
        exact o_eqD (I := I) hu pins s σ H v u ov ou Q In rv ru ⟨_, _, S, M, sim, rx, ry, p⟩
      | some r =>
        rw [q] at p
        refine o_eq (I := ⟨X.K, I.G, I.fl⟩) pins s σ H v u ov ou Q In rv ru ⟨.d a, .d b, S, M, sim, rx, ry, ?_⟩
        have e : opEqS (.d a) (.d b) S = (.ok (W.d (.bl r)) S : R W) := by simp only [opEqS, q]
        rw [e]
        exact p
theorem o_neG {X : Cx} {I : Inf} (hu : X.A.units + 64 < cLine) : OpR X (compareOp .NotEq) (rdOp ⟨X.K, I.G, I.fl⟩ opNeG) := by
  intro pins s σ H v u ov ou Q In rv ru hh
  obtain ⟨x, y, S, M, sim, rx, ry, p⟩ := hh
  cases x with
  | c i => exact o_neD (I := I) hu pins s σ H v u ov ou Q In rv ru ⟨_, y, S, M, sim, rx, ry, p⟩
  | d a =>
    cases y with
    | c i => exact o_neD (I := I) hu pins s σ H v u ov ou Q In rv ru ⟨_, _, S, M, sim, rx, ry, p⟩
    | d b =>
      have p : EndR ⟨X.K, I.G, I.fl⟩ S M H (RepW ⟨X.K, I.G, I.fl⟩) Q E0 (match eqS a b with
        | some r => .ok (.d (.bl (!r))) S
        | none => opNeD (.d a) (.d b) S) := p
      cases q : eqS a b with
      | none =>
        rw [q] at p
        exact o_neD (I := I) hu pins s σ H v u ov ou Q In rv ru ⟨_, _, S, M, sim, rx, ry, p⟩
      | some r =>
        rw [q] at p
        refine o_ne (I := ⟨X.K, I.G, I.fl⟩) pins s σ H v u ov ou Q In rv ru ⟨.d a, .d b, S, M, sim, rx, ry, ?_⟩
        have e : opNeS (.d a) (.d b) S = (.ok (W.d (.bl (!r))) S : R W) := by simp only [opNeS, q]
        rw [e]
        exact p
end Py

/-! Py9: statements. -/
namespace Py
open PySem PySem.Spec PyProof.Rows L2
@[simp] def bindS {α : Type} (r : R α) (e : Env) (k : α → Sto → RS) : RS := match r with
  | .ok a S => k a S
  | .exc c x S => .exc c x e S
  | .bad => .bad
@[simp] def sPass : DS := fun e S => .nx e S
@[simp] def sSeq (a b : DS) : DS := fun e S => match a e S with
  | .nx e1 S1 => b e1 S1
  | r => r
@[simp] def sExpr (a : DE) : DS := fun e S => bindS (a e S) e fun _ S1 => .nx e S1
@[simp] def sRet (a : DE) : DS := fun e S => bindS (a e S) e fun w S1 => .rt w S1
@[simp] def sRetN : DS := fun _ S => .rt (.d .non) S
@[simp] def sIf (t : DT) (a b : DS) : DS := fun e S => bindS (t e S) e fun c S1 => if c = true then a e S1 else b e S1
@[simp] def sBreak : DS := fun e S => .bk e S
@[simp] def sCont : DS := fun e S => .ct e S
@[simp] def sNever : DS := fun _ _ => .bad
/-! targets -/
abbrev GT := W → Env → Option Env
@[simp] def gNm (i : Nat) : GT := fun w e => some (e.set i (some w))
@[simp] def gNil : List W → Env → Option Env
  | [], e => some e
  | _, _ => none
@[simp] def gCons (g : GT) (gs : List W → Env → Option Env) : List W → Env → Option Env
  | w :: ws, e => match g w e with
    | some e1 => gs ws e1
    | none => none
  | _, _ => none
@[simp] def gTp (gs : List W → Env → Option Env) : GT := fun w e => match w with
  | .d (.tup xs) => gs (xs.map W.d) e
  | _ => none
@[simp] def sAsg (a : DE) (g : GT) : DS := fun e S => bindS (a e S) e fun w S1 => match g w e with
  | some e1 => .nx e1 S1
  | none => .bad
@[simp] def sPar (i j : Nat) (a b : DE) : DS := fun e S => bindS (a e S) e fun x S1 => bindS (b e S1) e fun y S2 => .nx ((e.set i (some x)).set j (some y)) S2
/-- x op= e -/
@[simp] def sAug (i : Nat) (f : W → W → Sto → R W) (a : DE) : DS := fun e S => match e[i]? with
  | some (some x) => bindS (a e S) e fun y S1 => bindS (f x y S1).ne e fun z S2 => .nx (e.set i (some z)) S2
  | _ => .bad
def W.lowB (n : Nat) : W → Bool
  | .d _ => true
  | .c j => Nat.blt j n
theorem W.lowB_of {n : Nat} {w : W} (h : w.lowB n = true) : w.low n := by
  cases w with
  | d x => trivial
  | c j => exact Nat.lt_of_lt_of_le (Nat.lt_succ_self _) (Nat.le_of_ble_eq_true h)
@[simp] theorem W.lowB_d (n : Nat) (x : D) : (W.d x).lowB n = true := rfl
/-- o[i] = v -/
@[simp] def setIx (o i v : W) (S : Sto) : Option Sto := match o, i with
  | .c k, .d (.int j) => match S[k]? with
    | some (.lst ws) => match ixN ws.length j with
      | some p => if v.lowB k = true then some (S.set k (.lst (ws.set p v))) else none
      | none => none
    | _ => none
  | _, _ => none
@[simp] def sSub (v o i : DE) : DS := fun e S => bindS (v e S) e fun x S1 => bindS (o e S1) e fun y S2 => bindS (i e S2) e fun z S3 => match setIx y z x S3 with
  | some S4 => .nx e S4
  | none => .bad
/-- o.f = v, f the i-th field of the class c -/
@[simp] def setAt (c i : Nat) (o v : W) (S : Sto) : Option Sto := match o with
  | .c k => match S[k]? with
    | some (.ins c' ws) => if c' = c ∧ v.lowB k = true then (if i < ws.length then some (S.set k (.ins c (ws.set i v))) else if i = ws.length then some (S.set k (.ins c (ws ++ [v]))) else none) else none
    | _ => none
  | _ => none
@[simp] def sFldD (c i : Nat) (v o : DE) : DS := fun e S => bindS (v e S) e fun x S1 => bindS (o e S1) e fun y S2 => match setAt c i y x S2 with
  | some S3 => .nx e S3
  | none => .bad
/-- o.append(v) as a statement -/
@[simp] def app (o v : W) (S : Sto) : Option Sto := match o with
  | .c k => match S[k]? with
    | some (.lst ws) => if v.lowB k = true ∧ ws.length < sizeLine then some (S.set k (.lst (ws ++ [v]))) else none
    | _ => none
  | _ => none
/-- a list that is a cell -/
@[simp] def isLc : W → Sto → Bool
  | .c i, S => match S[i]? with
    | some (.lst _) => true
    | _ => false
  | _, _ => false
@[simp] def dApp (o v : DE) : DE := fun e S => (o e S).bind fun x S1 => if isLc x S1 = true then ((v e S1).bind fun y S2 => match app x y S2 with
  | some S3 => .ok (.d .non) S3
  | none => .bad) else .bad
/-! loops -/
@[simp] def uns : List Nat → Env → Env
  | [], e => e
  | i :: l, e => (uns l e).set i none
def whileL (ks : List Nat) (t : DT) (b : DS) : Nat → Env → Sto → RS
  | 0, _, _ => .bad
  | n + 1, e, S => bindS (t (uns ks e) S) (uns ks e) fun c S1 => if c = true then (match b (uns ks e) S1 with
    | .nx e2 S2 => whileL ks t b n e2 S2
    | .ct e2 S2 => whileL ks t b n e2 S2
    | .bk e2 S2 => .nx (uns ks e2) S2
    | r => r) else .nx (uns ks e) S1
def sWhile (n : Nat) (ks : List Nat) (t : DT) (b : DS) : DS := fun e S => whileL ks t b n e S
open Classical in
noncomputable def forL (ks : List Nat) (g : GT) (b : DS) (gd : Sto → Prop) : List W → Env → Sto → RS
  | [], e, S => if gd S then .nx (uns ks e) S else .bad
  | x :: xs, e, S => if gd S then (match g x (uns ks e) with
    | none => .bad
    | some e1 => match b e1 S with
      | .nx e2 S2 => forL ks g b gd xs e2 S2
      | .ct e2 S2 => forL ks g b gd xs e2 S2
      | .bk e2 S2 => .nx (uns ks e2) S2
      | r => r) else .bad
/-- what a for walks: the items, and what must stay -/
abbrev DI := Env → Sto → R (List W × (Sto → Prop))
noncomputable def sFor (ks : List Nat) (g : GT) (i : DI) (b : DS) : DS := fun e S => bindS (i e S) e fun p S1 => forL ks g b p.2 p.1 e S1
open Classical in
noncomputable def compL (g : GT) (t : DT) (el : DE) (gd : Sto → Prop) (e : Env) : List W → Sto → R (List W)
  | [], S => if gd S then .ok [] S else .bad
  | x :: xs, S => if gd S then (match g x e with
    | none => .bad
    | some e1 => (t e1 S).ne.bind fun c S1 => if c = true then ((el e1 S1).ne.bind fun y S2 => (compL g t el gd e xs S2).bind fun ys S3 => .ok (y :: ys) S3) else compL g t el gd e xs S1) else .bad
@[simp] def tYesD : DT := fun _ S => .ok true S
/-- [el for g in i if t], plain data; own: the slots of its names -/
noncomputable def dComp (own : List Nat) (g : GT) (i : DI) (t : DT) (el : DE) : DE := fun e S => (i e S).bind fun p S1 => (compL g t el p.2 (uns own e) p.1 S1).bind fun ws S2 => if ws.length ≤ 16777216 then (match plainL ws with
  | some xs => .ok (.d (.lst xs)) S2
  | none => .bad) else .bad
/-- .. a cell -/
noncomputable def dCompC (own : List Nat) (g : GT) (i : DI) (t : DT) (el : DE) : DE := fun e S => (i e S).bind fun p S1 => (compL g t el p.2 (uns own e) p.1 S1).bind fun ws S2 => if ws.length ≤ 16777216 then .ok (.c S2.length) (S2 ++ [.lst ws]) else .bad
section
variable {J : Jn} {X : Cx} {I : Inf} {w : WX} {F Fi : FnTab} {k : Nat} {a b c e o : Expr} {es rest : List Expr} {da db dc d_o : DE} {dr : DA} {ta : DT} {pos p p2 : Pos} {st : Stmt} {sts sts' : List Stmt} {ds dt : DS}
theorem EndS.wk {S : Sto} {M : List Addr} {H : Hp} {D D' : Ends} {r : RS} (h : EndS I S M H D w r) (h1 : D.nx = D'.nx) (h2 : D.rt = D'.rt) (h3 : D.bk = D'.bk) (h4 : D.ct = D'.ct) : EndS I S M H D' w r := by
  cases D
  cases D'
  simp only at h1 h2 h3 h4
  subst h1 h2 h3 h4
  exact h
theorem ss_nil : PSs X [] (rdS I w sPass) := PSs_imp pss_nil fun D σ H ⟨e, S, M, s, sl, p⟩ => p σ H M Le.refl s sl
theorem ss_one (h : PS X st (rdS I w ds)) : PSs X [st] (rdS I w ds) := pss_one h
theorem ss_cons (h1 : PS X st (rdS I w ds)) (h2 : PSs X sts (rdS I w dt)) : PSs X (st :: sts) (rdS I w (sSeq ds dt)) := PSs_imp (pss_cons h1 h2) fun D σ H ⟨e, S, M, s, sl, p⟩ => by
  refine ⟨e, S, M, s, sl, ?_⟩
  unfold sSeq at p
  generalize ds e S = r at p ⊢
  cases r with
  | nx e1 S1 => exact fun σ' H' M' l' s' sl' => ⟨e1, S1, M', s', sl', p.up l'⟩
  | bk e1 S1 => exact p
  | ct e1 S1 => exact p
  | rt w S1 => exact p
  | exc c x e1 S1 => exact p
  | bad => exact p
/-- an expression, then a statement's end -/
theorem rdS_at {D : Ends} {σ : L2.St} {env : Env} {S : Sto} {M : List Addr} {H : Hp} {f : W → Sto → RS} {P : V → Hp → Prop} (s : Sim I S M H) (sl : Slots I M (mask S M H) env σ) (p : EndS I S M H D w (bindS (da env S) env f))
    (k : ∀ (x : W) (v : V) (S1 : Sto) (M1 : List Addr) (H1 : Hp), Le S M H S1 M1 H1 → Sim I S1 M1 H1 → Slots I M1 (mask S1 M1 H1) env σ → RepW I M1 (mask S1 M1 H1) x v → EndS I S1 M1 H1 D w (f x S1) → P v H1) : rdE I w da σ H P := by
  refine ⟨env, S, M, s, sl, ?_⟩
  generalize da env S = r at p ⊢
  cases r with
  | ok x S1 => exact fun v H' M' l' s' r' => k x v S1 M' H' l' s' (sl.mono l') r' (p.up l')
  | exc c x S1 => exact fun cls dd H' M' l' s' r' => p cls dd σ H' M' l' s' (sl.mono l') r'
  | bad => exact p
theorem rdS_one {D : Ends} {σ : L2.St} {H : Hp} {f : Env → W → Sto → RS} {P : V → Hp → Prop}
    (h : ∃ (env : Env) (S : Sto) (M : List Addr), Sim I S M H ∧ Slots I M (mask S M H) env σ ∧ EndS I S M H D w (bindS (da env S) env fun x S1 => f env x S1))
    (k : ∀ (x : W) (v : V) (env : Env) (S : Sto) (M : List Addr) (H : Hp), Sim I S M H → Slots I M (mask S M H) env σ → RepW I M (mask S M H) x v → EndS I S M H D w (f env x S) → P v H) :
    rdE I w da σ H P := by
  obtain ⟨e, S, M, s, sl, p⟩ := h
  refine ⟨e, S, M, s, sl, ?_⟩
  generalize da e S = r at p ⊢
  cases r with
  | ok x S1 => exact fun v H' M' l' s' r' => k x v e S1 M' H' s' (sl.mono l') r' (p.up l')
  | exc c x S1 => exact fun cls dd H' M' l' s' r' => p cls dd σ H' M' l' s' (sl.mono l') r'
  | bad => exact p
theorem rdS_test {D : Ends} {σ : L2.St} {H : Hp} {f : Env → Bool → Sto → RS} {P : Bool → Hp → Prop}
    (h : ∃ (env : Env) (S : Sto) (M : List Addr), Sim I S M H ∧ Slots I M (mask S M H) env σ ∧ EndS I S M H D w (bindS (ta env S) env fun x S1 => f env x S1))
    (k : ∀ (x : Bool) (env : Env) (S : Sto) (M : List Addr) (H : Hp), Sim I S M H → Slots I M (mask S M H) env σ → EndS I S M H D w (f env x S) → P x H) :
    rdT I w ta σ H P := by
  obtain ⟨e, S, M, s, sl, p⟩ := h
  refine ⟨e, S, M, s, sl, ?_⟩
  generalize ta e S = r at p ⊢
  cases r with
  | ok x S1 => exact fun v H' M' l' s' r' => k v e S1 M' H' s' (sl.mono l') (by subst r'; exact p.up l')
  | exc c x S1 => exact fun cls dd H' M' l' s' r' => p cls dd σ H' M' l' s' (sl.mono l') r'
  | bad => exact p
theorem ss_expr (h : PE X e (rdE I w da)) (hs : swapsWith e none pos.line X.env = pure false := by rfl) : PS X (.Expr e pos) (rdS I w (sExpr da)) := PS_imp (ps_expr h hs) fun D σ H q =>
  rdS_one (f := fun e _ S1 => .nx e S1) q fun x v e S M H s sl r p => p σ H M Le.refl s sl
theorem ss_ret (h : PE X e (rdE I w da)) : PS X (.Return (some e) pos) (rdS I w (sRet da)) := PS_imp (ps_ret h) fun D σ H q =>
  rdS_one (f := fun _ x S1 => .rt x S1) q fun x v e S M H s sl r p => p v H M Le.refl s r
theorem ss_retN : PS X (.Return none pos) (rdS I w sRetN) := PS_imp ps_retN fun D σ H ⟨e, S, M, s, sl, p⟩ => p .non H M Le.refl s .non
theorem ss_pass : PS X (.Pass pos) (rdS I w sPass) := PS_imp ps_pass fun D σ H ⟨e, S, M, s, sl, p⟩ => p σ H M Le.refl s sl
theorem ss_break : PS X (.Break pos) (rdS I w sBreak) := PS_imp ps_break fun D σ H ⟨e, S, M, s, sl, p⟩ => p σ H M Le.refl s sl
theorem ss_cont : PS X (.Continue pos) (rdS I w sCont) := PS_imp ps_continue fun D σ H ⟨e, S, M, s, sl, p⟩ => p σ H M Le.refl s sl
theorem ss_never : PS X st (rdS I w sNever) := PS_imp ps_never fun D σ H ⟨e, S, M, s, sl, p⟩ => p
theorem ss_if (hc : PT X c (rdT I w ta)) (h1 : PSs X sts (rdS I w ds)) (h2 : PSs X sts' (rdS I w dt)) : PS X (.If c sts sts' pos) (rdS I w (sIf ta ds dt)) := PS_imp (ps_if hc h1 h2) fun D σ H q =>
  rdS_test (f := fun e c S1 => if c = true then ds e S1 else dt e S1) q fun x e S M H s sl p => by
    split at p
    · rename_i h
      rw [if_pos h]
      exact ⟨e, S, M, s, sl, p⟩
    · rename_i h
      rw [if_neg h]
      exact ⟨e, S, M, s, sl, p⟩
/-! targets -/
def rdG (I : Inf) (g : GT) (vs : List Nat) : TG := fun v σ H Q => ∃ (x : W) (env : Env) (S : Sto) (M : List Addr), Sim I S M H ∧ Slots I M (mask S M H) env σ ∧ RepW I M (mask S M H) x v ∧ ∃ env', g x env = some env' ∧
  ∀ σ', Slots I M (mask S M H) env' σ' → (∀ own : List Nat, (∀ i ∈ vs, i ∈ own) → wipe σ' own = wipe σ own) → Q σ' H
def rdGs (I : Inf) (g : List W → Env → Option Env) (vs : List Nat) : TGs := fun us σ H Q => ∃ (xs : List W) (env : Env) (S : Sto) (M : List Addr), Sim I S M H ∧ Slots I M (mask S M H) env σ ∧ RepWs I M (mask S M H) xs us ∧ ∃ env', g xs env = some env' ∧
  ∀ σ', Slots I M (mask S M H) env' σ' → (∀ own : List Nat, (∀ i ∈ vs, i ∈ own) → wipe σ' own = wipe σ own) → Q σ' H
theorem PG_imp {e : Expr} {t t' : TG} (h : PG X e t) (i : ∀ v σ H Q, t' v σ H Q → t v σ H Q) : PG X e t' := ⟨fun pins s σ H v u Q I r q => h.run pins s σ H v u Q I r (i v σ H Q q)⟩
theorem PGs_imp {e : List Expr} {t t' : TGs} (h : PGs X e t) (i : ∀ v σ H Q, t' v σ H Q → t v σ H Q) : PGs X e t' := ⟨fun pins s σ H v u Q I r q => h.run pins s σ H v u Q I r (i v σ H Q q)⟩
theorem wipe_set {σ : L2.St} {i : Nat} {x : Option V} : ∀ {own : List Nat}, i ∈ own → wipe (σ.set i x) own = wipe σ own
  | j :: own, h => by
    show (wipe (σ.set i x) own).set j none = (wipe σ own).set j none
    by_cases hi : i ∈ own
    · rw [wipe_set hi]
    · have : i = j := by
        rcases List.mem_cons.mp h with h | h
        · exact h
        · exact absurd h hi
      subst this
      refine List.ext_getElem? fun m => ?_
      rw [List.getElem?_set, List.getElem?_set]
      by_cases hm : i = m
      · subst hm
        rw [if_pos rfl, if_pos rfl, wipe_length, wipe_length, List.length_set]
      · rw [if_neg hm, if_neg hm]
        have : ∀ {τ τ' : L2.St} {l : List Nat}, τ[m]? = τ'[m]? → τ.length = τ'.length → (wipe τ l)[m]? = (wipe τ' l)[m]? := fun {τ τ' l} h1 h2 => by
          induction l with
          | nil => exact h1
          | cons q l ih =>
            show ((wipe τ l).set q none)[m]? = ((wipe τ' l).set q none)[m]?
            rw [List.getElem?_set, List.getElem?_set]
            by_cases z : q = m
            · rw [if_pos z, if_pos z, wipe_length, wipe_length, h2]
            · rw [if_neg z, if_neg z]
              exact ih
        exact this (by rw [List.getElem?_set_ne hm]) (by simp)
theorem sg_nm {i : Nat} {x : Str} (hN : X.N.Nodup) (hi : X.N[i]? = some x := by rfl) (hx : Loc X.env.scope x := by first | exact Or.inl rfl | exact Or.inr rfl) (hf : X.fn x = true ∨ X.env.scope.names.lookup x = some .local := by first | exact .inl rfl | exact .inr rfl | assumption) : PG X (.Name x pos) (rdG I (gNm i) [i]) :=
  PG_imp (pg_name hN hi hx hf) fun v σ H Q ⟨x, env, S, M, s, sl, r, env', he, k⟩ => by
    cases he
    exact k _ (sl.set r) fun own h => wipe_set (h i (by simp))
theorem sgs_nil : PGs X [] (rdGs I gNil []) := PGs_imp pgs_nil fun v σ H Q ⟨x, env, S, M, s, sl, r, env', he, k⟩ => by
  cases r with
  | nil =>
    cases he
    exact ⟨rfl, k _ sl fun _ _ => rfl⟩
  | cons r t => cases he
theorem sgs_cons {g : GT} {gs : List W → Env → Option Env} {vs us : List Nat} (h1 : PG X e (rdG I g vs)) (h2 : PGs X es (rdGs I gs us)) (hs : (assignEach (e :: es) X.env).map (·.2) = assign e X.env :: (assignEach es X.env).map (·.2) := by rfl) : PGs X (e :: es) (rdGs I (gCons g gs) (vs ++ us)) :=
  PGs_imp (pgs_cons h1 h2 hs) fun v σ H Q ⟨x, env, S, M, s, sl, r, env', he, k⟩ => by
    cases r with
    | nil => cases he
    | cons r t =>
      dsimp only [gCons] at he
      split at he
      · rename_i e1 h1'
        refine ⟨_, _, rfl, _, env, S, M, s, sl, r, e1, h1', fun σ1 sl1 w1 => ⟨_, e1, S, M, s, sl1, t, env', he, fun σ2 sl2 w2 => k σ2 sl2 fun own h => ?_⟩⟩
        rw [w2 own fun i m => h i (List.mem_append_right _ m), w1 own fun i m => h i (List.mem_append_left _ m)]
      · cases he
theorem sg_tp {gs : List W → Env → Option Env} {vs : List Nat} {kk n : Nat} (hc : X.calm = true) (h : PGs X es (rdGs ⟨X.K, I.G, I.fl⟩ gs vs)) (hl : ∀ xs e e', gs xs e = some e' → xs.length = n)
    (hn : (assignEach es X.env).length = n := by rfl) (hst : (assignEach es X.env).findIdx? (·.1) = none := by rfl) : PG X (.Tuple es kk pos) (rdG ⟨X.K, I.G, I.fl⟩ (gTp gs) vs) :=
  PG_imp (pg_tup hc h hn hst) fun v σ H Q ⟨x, env, S, M, s, sl, r, env', he, k⟩ => by
    unfold gTp at he
    split at he
    · cases r with
      | tup h2 r2 => exact ⟨_, _, rfl, ex_t mask_ex h2, by rw [← r2.len, ← hl _ _ _ he, List.length_map], _, env, S, M, s, sl, reps_map r2, env', he, k⟩
    · cases he
theorem gNil_len : ∀ (xs : List W) (e e' : Env), gNil xs e = some e' → xs.length = 0
  | [], _, _, _ => rfl
  | _ :: _, _, _, h => by cases h
theorem gCons_len {g : GT} {gs : List W → Env → Option Env} {n : Nat} (h : ∀ xs e e', gs xs e = some e' → xs.length = n) : ∀ (xs : List W) (e e' : Env), gCons g gs xs e = some e' → xs.length = n + 1
  | [], _, _, q => by cases q
  | x :: xs, e, e', q => by
    dsimp only [gCons] at q
    split at q
    · rw [List.length_cons, h _ _ _ q]
    · cases q
theorem ss_asg {tg : Expr} {g : GT} {vs : List Nat} (he : PE X e (rdE I w da)) (hg : PG X tg (rdG I g vs)) (hs : swapsWithSole [tg] e pos.line X.env = pure false := by rfl) (hw : swappedStores [tg] e X.env = pure none := by rfl)
    (h1 : (assignEach [tg] X.env).map (·.2) = [assign tg X.env] := by rfl) : PS X (.Assign [tg] e pos) (rdS I w (sAsg da g)) := PS_imp (ps_asg he hg hs hw h1) fun D σ H q =>
  rdS_one (f := fun e x S1 => match g x e with
  | some e1 => .nx e1 S1
  | none => .bad) q fun x v e S M H s sl r p => by
    split at p
    · exact ⟨x, e, S, M, s, sl, r, _, by assumption, fun σ' sl' _ => p σ' H M Le.refl s sl'⟩
    · exact p.elim
theorem ss_set {i : Nat} {x : Str} {pos' : Pos} (hN : X.N.Nodup) (he : PE X e (rdE I w da)) (hi : X.N[i]? = some x := by rfl) (hx : Loc X.env.scope x := by first | exact Or.inl rfl | exact Or.inr rfl) (hs : swapsWith e (some (.Name x pos')) pos.line X.env = pure false := by rfl)
    (hf : X.fn x = true ∨ X.env.scope.names.lookup x = some .local := by first | exact .inl rfl | exact .inr rfl | assumption) : PS X (.Assign [.Name x pos'] e pos) (rdS I w (sAsg da (gNm i))) := PS_imp (ps_set hN hi hx he hs hf) fun D σ H q =>
  rdS_one (f := fun e x S1 => .nx (e.set i (some x)) S1) q fun x v e S M H s sl r p => p _ H M Le.refl s (sl.set r)
theorem ss_par {i j : Nat} {x y : Str} {a b : Expr} {px py pt : Pos} {kt k2 pt2} (hc : X.calm = true) (hN : X.N.Nodup) (hij : i ≠ j) (ha : PE X a (rdE I w da)) (hb : PE X b (rdE I w db)) (hi : X.N[i]? = some x := by rfl) (hj : X.N[j]? = some y := by rfl)
    (hx : X.env.scope.names.lookup x = some .local := by rfl) (hy : X.env.scope.names.lookup y = some .local := by rfl)
    (hs1 : starEach [a, b] X.env = (false, eval a X.env) :: starEach [b] X.env := by rfl) (hs2 : starEach [b] X.env = (false, eval b X.env) :: starEach [] X.env := by rfl)
    (hw : swappedStores [.Tuple [.Name x px, .Name y py] kt pt] (.Tuple [a, b] k2 pt2) X.env = pure (some [x, y]) := by rfl)
    (hs : swapsWithSole [.Tuple [.Name x px, .Name y py] kt pt] (.Tuple [a, b] k2 pt2) pos.line X.env = pure false := by rfl) :
    PS X (.Assign [.Tuple [.Name x px, .Name y py] kt pt] (.Tuple [a, b] k2 pt2) pos) (rdS I w (sPar i j da db)) :=
  PS_imp (ps_par hc hN hi hj hij hx hy (pa_cons ha (pa_cons hb pa_nil hs2) hs1) hw hs) fun D σ H q =>
    rdS_one (f := fun e x S1 => bindS (db e S1) e fun y S2 => .nx ((e.set i (some x)).set j (some y)) S2) q fun x v e S M H s sl r p => by
      refine ⟨e, S, M, s, sl, ?_⟩
      generalize db e S = rr at p ⊢
      cases rr with
      | ok y S1 => exact fun u H' M' l' s' r' => ⟨v, u, rfl, p _ H' M' l' s' (((sl.mono l').set (r.mono l')).set r')⟩
      | exc c x S1 => exact fun cls dd H' M' l' s' r' => p cls dd σ H' M' l' s' (sl.mono l') r'
      | bad => exact p
theorem setIx_at {S S' : Sto} {M : List Addr} {H : Hp} {y z x : W} {vy vz v : V} {Q : Hp → Prop} (s : Sim I S M H) (ry : RepW I M (mask S M H) y vy) (rz : RepW I M (mask S M H) z vz) (rx : RepW I M (mask S M H) x v) (e : setIx y z x S = some S')
    (k : ∀ H', Le S M H S' M H' → Sim I S' M H' → Q H') : rSetL vy vz v H Q := by
  unfold setIx at e
  split at e
  · split at e
    · split at e
      · split at e
        · rename_i k' j _ ws hc _ q hq hlo
          cases e
          obtain ⟨a, ea, rfl⟩ := ry
          obtain ⟨vs, ho, q'⟩ := s.cell _ _ a hc ea
          cases rz
          have hl := Paired.length q'
          have lo : ∀ u ∈ ws.set q x, u.low k' := fun u m => by
            rcases List.mem_or_eq_of_mem_set m with m | m
            · exact s.low _ _ hc u m
            · subst m
              exact W.lowB_of hlo
          have pset : ∀ {as : List W} {bs : List V} (n : Nat), RepWs I M (mask S M H) as bs → RepWs I M (mask S M H) (as.set n x) (bs.set n v) := fun {as bs} n r => by
            induction r generalizing n with
            | nil => exact .nil
            | cons r t ih =>
              cases n with
              | zero => exact .cons rx t
              | succ n => exact .cons r (ih n)
          obtain ⟨s', l'⟩ := s.write (o := .lst (vs.set q v)) (c' := .lst (ws.set q x)) hc ea (by intro z; cases z) (by intro z; cases z) lo ⟨_, rfl, pset q q'⟩
          exact ⟨a, vs, _, q, rfl, rfl, ho, by rw [← hl]; exact hq, k _ l' s'⟩
        · cases e
      · cases e
    · cases e
  · cases e
theorem ss_sub {v o i : Expr} {dv d_i : DE} {tpos : Pos} (hv : PE X v (rdE I w dv)) (ho : PE X o (rdE I w d_o)) (hi : PE X i (rdE I w d_i))
    (hs : swapsWithSole [.Subscript o i tpos] v pos.line X.env = pure false := by rfl) (hw : swappedStores [.Subscript o i tpos] v X.env = pure none := by rfl)
    (h1 : (assignEach [.Subscript o i tpos] X.env).map (·.2) = [assign (.Subscript o i tpos) X.env] := by rfl)
    (ha : ∀ v, assign (.Subscript o i tpos) X.env v = (do
      let ov ← holding [v] (eval o X.env)
      let iv ← holding [v, ov] (eval i X.env)
      standAt tpos
      holding [v, ov, iv] (setItem ov iv v)
      release [v, ov, iv] []) := by intro _; rfl) : PS X (.Assign [.Subscript o i tpos] v pos) (rdS I w (sSub dv d_o d_i)) :=
  PS_imp (ps_asg hv (pg_sub ho hi set_list ha) hs hw h1) fun D σ H q => by
    obtain ⟨e, S, M, s, sl, p⟩ := q
    refine rdS_at s sl p fun x vx S1 M1 H1 l1 s1 sl1 r1 p1 => ?_
    refine rdS_at s1 sl1 p1 fun y vy S2 M2 H2 l2 s2 sl2 r2 p2 => ?_
    refine rdS_at s2 sl2 p2 fun z vz S3 M3 H3 l3 s3 sl3 r3 p3 => ?_
    split at p3
    · exact setIx_at s3 (r2.mono l3) r3 ((r1.mono l2).mono l3) (by assumption) fun H' l' s' => p3 σ H' M3 l' s' (sl3.mono l')
    · exact p3.elim
theorem setAt_at {S S' : Sto} {M : List Addr} {H : Hp} {y x : W} {vy v : V} {c i : Nat} {m : Str} {Q : Hp → Prop} (hm : (I.fl c)[i]? = some m) (hn : (I.fl c).Nodup) (hf : (I.fl c).length < 1000) (s : Sim I S M H) (ry : RepW I M (mask S M H) y vy) (rx : RepW I M (mask S M H) x v) (e : setAt c i y x S = some S')
    (k : ∀ H', Le S M H S' M H' → Sim I S' M H' → Q H') : ∃ a C dx fs, vy = .ref a ∧ I.G c = some C ∧ H a = some (.ins C dx fs) ∧ fs.length < 1000 ∧ Q (upd H a (.ins C dx (putF m v fs))) := by
  unfold setAt at e
  split at e
  · split at e
    · split at e
      · rename_i k' _ c' ws hc hh
        obtain ⟨rfl, hlo⟩ := hh
        obtain ⟨a, ea, rfl⟩ := ry
        obtain ⟨C, dx, vs, g, h, l, q⟩ := s.cell _ _ a hc ea
        have hl := Paired.length q
        have hi : i < (I.fl c').length := (List.getElem?_eq_some_iff.mp hm).1
        have put : ∀ {ks : List Str} {us : List V} {j : Nat}, ks.Nodup → ks[j]? = some m → j < us.length → putF m v (ks.zip us) = ks.zip (us.set j v) := fun {ks} => by
          induction ks with
          | nil => intro us j _ e _; simp at e
          | cons k0 ks ih =>
            intro us j nd e hj
            cases us with
            | nil => simp at hj
            | cons u us =>
              cases j with
              | zero =>
                simp at e
                subst e
                rw [List.zip_cons_cons]
                unfold putF
                rw [if_pos rfl]
                rfl
              | succ j =>
                simp at e
                rw [List.zip_cons_cons]
                unfold putF
                have hk : ¬ k0 = m := fun z => (List.nodup_cons.mp nd).1 (z ▸ List.mem_of_getElem? e)
                rw [if_neg hk, ih (List.nodup_cons.mp nd).2 e (by simpa using hj)]
                rfl
        have put2 : ∀ {ks : List Str} {us : List V}, ks.Nodup → ks[us.length]? = some m → putF m v (ks.zip us) = ks.zip (us ++ [v]) := fun {ks} => by
          induction ks with
          | nil => intro us _ e; simp at e
          | cons k0 ks ih =>
            intro us nd e
            cases us with
            | nil =>
              simp at e
              subst e
              cases ks <;> rfl
            | cons u us =>
              simp at e
              rw [List.zip_cons_cons]
              unfold putF
              have hk : ¬ k0 = m := fun z => (List.nodup_cons.mp nd).1 (z ▸ List.mem_of_getElem? e)
              rw [if_neg hk, ih (List.nodup_cons.mp nd).2 e]
              rfl
        have few : ((I.fl c').zip vs).length < 1000 := by rw [List.length_zip]; omega
        split at e
        · rename_i hlt
          cases e
          have lo : ∀ u ∈ ws.set i x, u.low k' := fun u m => by
            rcases List.mem_or_eq_of_mem_set m with m | m
            · exact s.low _ _ hc u m
            · subst m
              exact W.lowB_of hlo
          have pset : ∀ {as : List W} {bs : List V} (n : Nat), RepWs I M (mask S M H) as bs → RepWs I M (mask S M H) (as.set n x) (bs.set n v) := fun {as bs} n r => by
            induction r generalizing n with
            | nil => exact .nil
            | cons r t ih =>
              cases n with
              | zero => exact .cons rx t
              | succ n => exact .cons r (ih n)
          obtain ⟨s', l'⟩ := s.write (o := .ins C dx (putF m v ((I.fl c').zip vs))) (c' := .ins c' (ws.set i x)) hc ea (by intro z; cases z) (by intro z; cases z) lo ⟨C, dx, vs.set i v, g, by rw [put hn hm (by rw [← hl]; exact hlt)], by simpa using l, pset i q⟩
          exact ⟨a, C, dx, _, rfl, g, h, few, k _ l' s'⟩
        · split at e
          · rename_i heq
            cases e
            have lo : ∀ u ∈ ws ++ [x], u.low k' := fun u m => by
              rcases List.mem_append.mp m with m | m
              · exact s.low _ _ hc u m
              · have : u = x := by simpa using m
                subst this
                exact W.lowB_of hlo
            obtain ⟨s', l'⟩ := s.write (o := .ins C dx (putF m v ((I.fl c').zip vs))) (c' := .ins c' (ws ++ [x])) hc ea (by intro z; cases z) (by intro z; cases z) lo ⟨C, dx, vs ++ [v], g, by rw [put2 hn (by rw [← hl, ← heq]; exact hm)], by
              rw [List.length_append, ← hl, ← heq]
              exact hi, RepWs.app q (.cons rx .nil)⟩
            exact ⟨a, C, dx, _, rfl, g, h, few, k _ l' s'⟩
          · cases e
      · cases e
    · cases e
  · cases e
theorem ss_fld {v : Expr} {dv : DE} {f : Str} {c i : Nat} {pos' : Pos} (t : Cok J X w F Fi k) (hm : (J.sg.fl c)[i]? = some f) (hn : (J.sg.fl c).Nodup) (hf : (J.sg.fl c).length < 1000) (ho : PE X o (rdE (J.inf X.K) w d_o)) (hv : PE X v (rdE (J.inf X.K) w dv)) (hs : swapsWith v (some (.Attribute o f pos')) pos.line X.env = pure false := by rfl) :
    PS X (.Assign [.Attribute o f pos'] v pos) (rdS (J.inf X.K) w (sFldD c i dv d_o)) := PS_imp (ps_fld ho hv hs) fun D σ H q => by
    obtain ⟨e, S, M, s, sl, p⟩ := q
    refine rdS_at s sl p fun x vx S1 M1 H1 l1 s1 sl1 r1 p1 => ?_
    refine rdS_at s1 sl1 p1 fun y vy S2 M2 H2 l2 s2 sl2 r2 p2 => ?_
    split at p2
    · obtain ⟨a, C, dx, fs, e1, g, e2, e3, e4⟩ := setAt_at (Q := D.nx σ) hm hn hf s2 r2 (r1.mono l2) (by assumption) fun H' l' s' => p2 σ H' M2 l' s' (sl2.mono l')
      exact ⟨a, C, dx, fs, e1, e2, t.cls c C g, t.nat c C f g (List.mem_of_getElem? hm), e3, e4⟩
    · exact p2.elim
theorem isLc_ty {I : Inf} {S : Sto} {M : List Addr} {H : Hp} {x : W} {v : V} (s : Sim I S M H) (r : RepW I M (mask S M H) x v) (h : isLc x S = true) : tyV I.K "list" v H := by
  unfold isLc at h
  split at h
  · split at h
    · obtain ⟨a, ea, rfl⟩ := r
      obtain ⟨vs, ho, q⟩ := s.cell _ _ a (by assumption) ea
      exact Or.inl ⟨rfl, _, Or.inl (Or.inl ho)⟩
    · cases h
  · cases h
theorem app_at {S S' : Sto} {M : List Addr} {H : Hp} {y x : W} {vy v : V} {Q : VK} (s : Sim I S M H) (ry : RepW I M (mask S M H) y vy) (rx : RepW I M (mask S M H) x v) (e : app y x S = some S')
    (k : ∀ H', Le S M H S' M H' → Sim I S' M H' → Q .non H') : rAppend vy [v] H Q := by
  unfold app at e
  split at e
  · split at e
    · split at e
      · rename_i k' _ ws hc hh
        cases e
        obtain ⟨a, ea, rfl⟩ := ry
        obtain ⟨vs, ho, q⟩ := s.cell _ _ a hc ea
        have lo : ∀ u ∈ ws ++ [x], u.low k' := fun u m => by
          rcases List.mem_append.mp m with m | m
          · exact s.low _ _ hc u m
          · have : u = x := by simpa using m
            subst this
            exact W.lowB_of hh.1
        obtain ⟨s', l'⟩ := s.write (o := .lst (vs ++ [v])) (c' := .lst (ws ++ [x])) hc ea (by intro z; cases z) (by intro z; cases z) lo ⟨_, rfl, RepWs.app q (.cons rx .nil)⟩
        exact ⟨a, vs, v, rfl, rfl, ho, by rw [← Paired.length q]; exact hh.2, k _ l' s'⟩
      · cases e
    · cases e
  · cases e
theorem sx_app {v : Expr} {dv : DE} {apos cpos : Pos} (ho : PE X o (rdE ⟨X.K, I.G, I.fl⟩ w d_o)) (hv : PE X v (rdE ⟨X.K, I.G, I.fl⟩ w dv)) (hbase : attributeBase o "append" X.env (eval o X.env) = eval o X.env := by rfl)
    (hs1 : starEach [v] X.env = (false, eval v X.env) :: starEach [] X.env := by rfl)
    (hfew : ((backTo cpos (starEach [v] X.env)).all (fun x => !x.1) && (backToKw cpos (keywordEach [] X.env)).all (fun x => x.1.isSome)
      && decide ([v].length + ([] : List Keyword).length + (if ([] : List Keyword).isEmpty then 0 else 1) < 30)) = true := by rfl)
    (hline : (apos.endLine == cpos.line) = true := by rfl) (hplain : (backTo cpos (starEach [] X.env)).any (·.1) = false := by rfl) :
    PE X (.Call (.Attribute o "append" apos) [v] [] cpos) (rdE ⟨X.K, I.G, I.fl⟩ w (dApp d_o dv)) :=
  PE_imp (pe_bm PySem.F.plainAttrs_list PySem.F.slot_list_append PySem.F.type_list_append mt_append ho (pa_cons hv pa_nil hs1) hbase hfew hline hs1 hplain) fun σ H Q q => by
    obtain ⟨e, S, M, s, sl, p⟩ := q
    refine ⟨e, S, M, s, sl, (EndR.bind (rel1 := RepW ⟨X.K, I.G, I.fl⟩) p).imp fun v1 H1 ⟨x, S1, M1, l1, s1, r1, p1⟩ => ?_⟩
    split at p1
    · rename_i hx
      refine ⟨isLc_ty s1 r1 hx, e, S1, M1, s1, sl.mono l1, (EndR.bind (rel1 := RepW ⟨X.K, I.G, I.fl⟩) p1).imp fun v2 H2 ⟨y, S2, M2, l2, s2, r2, p2⟩ => ?_⟩
      split at p2
      · exact app_at s2 (r1.mono l2) r2 (by assumption) fun H' l' s' => p2 .non H' M2 l' s' .non
      · exact p2.elim
    · exact p1.elim
end
end Py

/-! Py10: loops, comprehensions, what they walk. -/
namespace Py
open PySem PySem.Spec PyProof.Rows L2
section
variable {J : Jn} {X : Cx} {I : Inf} {w : WX} {F Fi : FnTab} {k : Nat} {a b c e o tg iter elt : Expr} {es rest : List Expr} {da db dc d_o el : DE} {dr : DA} {ta : DT} {pos p p2 : Pos} {st : Stmt} {sts sts' : List Stmt} {ds dt : DS} {di : DI} {g : GT} {vs : List Nat}
theorem uns_slots {M : List Addr} {H : Hp} {env : Env} {σ : L2.St} (s : Slots I M H env σ) : ∀ ks : List Nat, Slots I M H (uns ks env) σ
  | [] => s
  | i :: l => (uns_slots s l).unset
theorem uns_wipe {M : List Addr} {H : Hp} {env : Env} {σ : L2.St} (s : Slots I M H env σ) : ∀ ks : List Nat, Slots I M H (uns ks env) (wipe σ ks)
  | [] => s
  | i :: l => by
    have h := uns_wipe s l
    refine ⟨by show ((uns l env).set i none).length = ((wipe σ l).set i none).length; simp [h.len], fun j u e => ?_⟩
    have e : ((uns l env).set i none)[j]? = some (some u) := e
    show ∃ v, ((wipe σ l).set i none)[j]? = some (some v) ∧ _
    rw [List.getElem?_set] at e ⊢
    by_cases q : i = j
    · rw [if_pos q] at e
      split at e
      · simp at e
      · cases e
    · rw [if_neg q] at e ⊢
      exact h.get j u e
/-- a while: the fuel is its measure -/
theorem ss_while {n : Nat} {ks : List Nat} (t : Cok J X w F Fi k) (hc : PT X c (rdT I w ta)) (hb : PSs X sts (rdS I w ds)) : PS X (.While c sts [] pos) (rdS I w (sWhile n ks ta ds)) :=
  PS_imp (ps_while t.po hc hb) fun D σ H ⟨env, S, M, s, sl, p⟩ => by
    refine ⟨fun m σ H => ∃ (env : Env) (S : Sto) (M : List Addr), Sim I S M H ∧ Slots I M (mask S M H) env σ ∧ EndS I S M H D w (whileL ks ta ds m env S), ⟨n, env, S, M, s, sl, p⟩, fun m σ H ⟨env, S, M, s, sl, p⟩ => ?_⟩
    cases m with
    | zero => exact p.elim
    | succ m =>
      unfold whileL at p
      refine ⟨uns ks env, S, M, s, uns_slots sl ks, ?_⟩
      generalize ta (uns ks env) S = r at p ⊢
      cases r with
      | bad => exact p
      | exc c x S1 => exact fun cls dd H' M' l' s' r' => p cls dd σ H' M' l' s' ((uns_slots sl ks).mono l') r'
      | ok c S1 =>
        intro b H1 M1 l1 s1 hb
        subst hb
        have p1 : EndS I S1 M1 H1 D w (if c = true then (match ds (uns ks env) S1 with
          | .nx e2 S2 => whileL ks ta ds m e2 S2
          | .ct e2 S2 => whileL ks ta ds m e2 S2
          | .bk e2 S2 => .nx (uns ks e2) S2
          | r => r) else .nx (uns ks env) S1) := EndS.up (r := if c = true then _ else _) p l1
        have sl1 := (uns_slots sl ks).mono l1
        split at p1
        · rename_i hc
          rw [if_pos hc]
          refine ⟨fun σ' H' => ∃ (env : Env) (S : Sto) (M : List Addr), Sim I S M H' ∧ Slots I M (mask S M H') env σ' ∧ EndS I S M H' D w (whileL ks ta ds m env S), fun σ' H' h => ⟨m, Nat.lt_succ_self _, h⟩, uns ks env, S1, M1, s1, sl1, ?_⟩
          generalize ds (uns ks env) S1 = r at p1 ⊢
          cases r with
          | nx e2 S2 => exact fun σ' H' M' l' s' sl' => ⟨e2, S2, M', s', sl', EndS.up p1 l'⟩
          | ct e2 S2 => exact fun σ' H' M' l' s' sl' => ⟨e2, S2, M', s', sl', EndS.up p1 l'⟩
          | bk e2 S2 => exact fun σ' H' M' l' s' sl' => p1 σ' H' M' l' s' (uns_slots sl' ks)
          | rt w S2 => exact p1
          | exc c x e2 S2 => exact p1
          | bad => exact p1
        · rename_i hc
          rw [if_neg hc]
          exact p1 σ H1 M1 Le.refl s1 sl1
/-- what J gives: the items xs, while gd holds of the store (Hs: the part of the heap that the store speaks of) -/
structure WalkI (I : Inf) (J : It) (xs : List W) (gd : Sto → Prop) (S : Sto) (M : List Addr) (H : Hp) : Prop where
  item : ∀ (S2 : Sto) (M2 : List Addr) (Hs H2 : Hp), Le S M H S2 M2 Hs → Sim I S2 M2 Hs → Ex Hs H2 → gd S2 → ∀ (i : Nat) (x : W), xs[i]? = some x → J.go i H2 ∧ ∀ v H3, J.yld i H2 v H3 →
    (H3 = H2 ∧ RepW I M2 (mask S2 M2 Hs) x v) ∨ ∃ (T : Addr) (us : List V) (ys : List D), H2 T = none ∧ H3 = upd H2 T (.tup us) ∧ v = .ref T ∧ x = .d (.tup ys) ∧ Reps I (mask S2 M2 Hs) ys us
  stop : ∀ (S2 : Sto) (M2 : List Addr) (Hs H2 : Hp), Le S M H S2 M2 Hs → Sim I S2 M2 Hs → Ex Hs H2 → gd S2 → J.stop xs.length H2
def rdI (I : Inf) (w : WX) (d : DI) : TI := fun σ H R => ∃ (env : Env) (S : Sto) (M : List Addr), Sim I S M H ∧ Slots I M (mask S M H) env σ ∧ (match d env S with
  | .ok p S' => ∀ (J : It) (H' : Hp) (M' : List Addr), Le S M H S' M' H' → Sim I S' M' H' → WalkI I J p.1 p.2 S' M' H' → R J H'
  | .exc c x S' => ∀ (cls : Value) (dd : Option Addr) (H' : Hp) (M' : List Addr), Le S M H S' M' H' → Sim I S' M' H' → RepX I (mask S' M' H') c x cls dd → w cls dd σ H'
  | .bad => False)
theorem PI_imp {t t' : TI} (h : PI X tg iter t) (i : ∀ σ H R, t' σ H R → t σ H R) : PI X tg iter t' := ⟨fun pins s σ H R I q => h.run pins s σ H R I (i σ H R q)⟩
theorem ss_for {ks : List Nat} (t : Cok J X w F Fi k) (hi : PI X tg iter (rdI I w di)) (hg : PG X tg (rdG I g vs)) (hb : PSs X sts (rdS I w ds)) (hs : ∀ x, foldedSetIterable iter X.env x = pure x := by intro _; rfl) : PS X (.For tg iter sts [] pos) (rdS I w (sFor ks g di ds)) :=
  PS_imp (ps_for t.po t.calm hi hg hb hs) fun D σ H ⟨env, S, M, s, sl, p⟩ => by
    refine ⟨env, S, M, s, sl, ?_⟩
    unfold sFor at p
    generalize di env S = r at p ⊢
    cases r with
    | bad => exact p
    | exc c x S1 => exact fun cls dd H' M' l' s' r' => p cls dd σ H' M' l' s' (sl.mono l') r'
    | ok q S1 =>
      obtain ⟨xs, gd⟩ := q
      intro J1 H1 M1 l1 s1 wk
      have p : EndS I S M H D w (forL ks g ds gd xs env S1) := p
      refine ⟨fun i m σ' H' => ∃ (env' : Env) (S' : Sto) (M' : List Addr), m = xs.length - i ∧ i ≤ xs.length ∧ Le S1 M1 H1 S' M' H' ∧ Sim I S' M' H' ∧ Slots I M' (mask S' M' H') env' σ' ∧ EndS I S' M' H' D w (forL ks g ds gd (xs.drop i) env' S'),
        ⟨_, env, S1, M1, rfl, Nat.zero_le _, Le.refl, s1, sl.mono l1, EndS.up p l1⟩, fun i m σ' H' ⟨env', S', M', hm, hi, l', s', sl', p'⟩ => ?_⟩
      rcases Nat.lt_or_ge i xs.length with hlt | hge
      · right
        rw [List.drop_eq_getElem_cons hlt] at p'
        unfold forL at p'
        split at p'
        · rename_i hgd
          obtain ⟨hgo, hy⟩ := wk.item S' M' H' H' l' s' (Ex.refl _) hgd i _ (List.getElem?_eq_getElem hlt)
          refine ⟨hgo, fun σ2 H2 => ∃ (env' : Env) (S' : Sto) (M' : List Addr), Le S1 M1 H1 S' M' H2 ∧ Sim I S' M' H2 ∧ Slots I M' (mask S' M' H2) env' σ2 ∧ EndS I S' M' H2 D w (forL ks g ds gd (xs.drop (i + 1)) env' S'),
            fun σ2 H2 ⟨env', S', M', a1, a2, a3, a4⟩ => ⟨_, by omega, env', S', M', rfl, hlt, a1, a2, a3, a4⟩, fun v H3 hyl => ?_⟩
          obtain ⟨s3, l3, r3⟩ : Sim I S' M' H3 ∧ Le S' M' H' S' M' H3 ∧ RepW I M' (mask S' M' H3) xs[i] v := by
            rcases hy v H3 hyl with ⟨rfl, r3⟩ | ⟨T, us, ys, nT, rfl, rfl, ex, rs⟩
            · exact ⟨s', Le.refl, r3⟩
            · obtain ⟨a1, a2⟩ := s'.new (o := .tup us) nT
              rw [ex]
              exact ⟨a1, a2, .tup (.inl (.inl (mask_new s' nT))) (rs.mono a2.ex)⟩
          have sl3 := (uns_slots sl' ks).mono l3
          split at p'
          · exact p'.elim
          · rename_i e1 he1
            refine ⟨_, _, S', M', s3, sl3, r3, e1, he1, fun σ4 sl4 _ => ⟨e1, S', M', s3, sl4, ?_⟩⟩
            have p' := EndS.up p' l3
            have l4 := l'.trans l3
            generalize ds e1 S' = r at p' ⊢
            cases r with
            | nx e2 S2 => exact fun σ' H' M' l' s' sl' => ⟨e2, S2, M', l4.trans l', s', sl', EndS.up p' l'⟩
            | ct e2 S2 => exact fun σ' H' M' l' s' sl' => ⟨e2, S2, M', l4.trans l', s', sl', EndS.up p' l'⟩
            | bk e2 S2 => exact fun σ' H' M' l' s' sl' => p' σ' H' M' l' s' (uns_slots sl' ks)
            | rt w S2 => exact p'
            | exc c x e2 S2 => exact p'
            | bad => exact p'
        · exact p'.elim
      · left
        have hi' : i = xs.length := by omega
        subst hi'
        rw [List.drop_length] at p'
        unfold forL at p'
        split at p'
        · rename_i hgd
          exact ⟨wk.stop S' M' H' H' l' s' (Ex.refl _) hgd, p' σ' H' M' Le.refl s' (uns_slots sl' ks)⟩
        · exact p'.elim
/-! ### a list aside -/
def era (H : Hp) (D : Addr) : Hp := fun a => if a = D then none else H a
theorem era_same {H : Hp} {D : Addr} : era H D D = none := by unfold era; rw [if_pos rfl]
theorem era_ne {H : Hp} {D a : Addr} (h : a ≠ D) : era H D a = H a := by unfold era; rw [if_neg h]
theorem era_upd {H : Hp} {D : Addr} {o : HO} (h : H D = none) : era (upd H D o) D = H := by
  funext a
  by_cases e : a = D
  · rw [e, era_same, h]
  · rw [era_ne e, upd_ne e]
theorem inv_aside {pins : List (Addr × Obj)} {σ : L2.St} {H : Hp} {s : Shared} {D : Addr} {xs : List V} (In : Inv X pins σ H s) (h : H D = some (.lst xs)) :
    (∀ o, X.s_0.heap.get? D = some o → X.H_0 D = none → D ∉ X.ex → False) ∧ (∀ p ∈ X.pn ++ pins, p.1 ≠ D) ∧ ∃ (its : List Value) (n : Nat), Vals xs its ∧ xs.length ≤ sizeLine ∧ Inv X (pins ++ [(D, { cls := .type "list", data := .seq its.toArray n })]) σ (era H D) s := by
  obtain ⟨its, n, r, e, z⟩ := In.lst h
  refine ⟨fun o e1 e2 e3 => ?_, fun p hp q => ?_, ?_⟩
  · have := In.base.free D o e1 e2 e3
    rw [h] at this
    cases this
  · obtain ⟨_, a2, _⟩ := In.pin p hp
    rw [q, h] at a2
    cases a2
  have sub : ∀ b, H b = none → era H D b = none := fun b e => by
    by_cases q : b = D
    · rw [q]; exact era_same
    · rw [era_ne q]; exact e
  have nD : ∀ b o, H b = some o → (∀ ys, o ≠ .lst ys) → b ≠ D := fun b o e n q => by
    rw [q, h] at e
    cases e
    exact n xs rfl
  have keepsome : ∀ b o, H b = some o → (∀ ys, o ≠ .lst ys) → era H D b = some o := fun b o e n => by rw [era_ne (nD b o e n)]; exact e
  refine ⟨its, n, r, z, ⟨In.ok, In.os, In.bare, ⟨In.base.keep, In.base.slot, fun b o q n hx => sub b (In.base.free b o q n hx), In.base.there, fun b ys q => keepsome _ _ (In.base.tups b ys q) (by intro ys z; cases z), fun b o u q => keepsome _ _ (In.base.frzs b o u q) (by intro ys z; cases z),
    fun b ps q => ?_⟩, In.loc, In.cell, sub _ In.free, fun x c q => sub _ (In.freeC x c q), fun p hp => ?_, fun b o q => ?_, In.len⟩⟩
  · obtain ⟨more, z⟩ := In.base.tbls b ps q
    exact ⟨more, keepsome _ _ z (by intro ys z; cases z)⟩
  · rcases List.mem_append.mp (by simpa using hp : p ∈ (X.pn ++ pins) ++ [(D, ({ cls := .type "list", data := .seq its.toArray n } : Obj))]) with hp | hp
    · obtain ⟨a1, a2, a3, a4, a5⟩ := In.pin p hp
      exact ⟨a1, sub _ a2, a3, a4, a5⟩
    · have : p = (D, ({ cls := .type "list", data := .seq its.toArray n } : Obj)) := by simpa using hp
      subst this
      refine ⟨e, era_same, fun q => ?_, fun q => ?_, fun v q => by cases q⟩
      · have := In.free
        rw [← q] at this
        rw [h] at this
        cases this
      · obtain ⟨_, o, ho, _⟩ := In.ok.funs.mem q
        have := In.base.free D o ho (In.ok.frf D q) fun z => In.ok.exfs D z q
        rw [h] at this
        cases this
  · by_cases q' : b = D
    · rw [q', era_same] at q
      cases q
    · rw [era_ne q'] at q
      exact (In.hok b o q).stay (fun _ _ _ q => q) (fun c q => keepsome _ _ q (by intro ys z; cases z)) fun c ys q => keepsome _ _ q (by intro ys z; cases z)
theorem inv_back {pins : List (Addr × Obj)} {σ : L2.St} {H : Hp} {s : Shared} {D : Addr} {xs : List V} {its : List Value} {n : Nat} (h1 : ∀ o, X.s_0.heap.get? D = some o → X.H_0 D = none → D ∉ X.ex → False) (h2 : ∀ p ∈ X.pn ++ pins, p.1 ≠ D) (r : Vals xs its) (z : xs.length ≤ sizeLine)
    (In : Inv X (pins ++ [(D, { cls := .type "list", data := .seq its.toArray n })]) σ H s) : H D = none ∧ Inv X pins σ (upd H D (.lst xs)) s := by
  obtain ⟨p1, p2, p3, p4, p5⟩ := In.pin (D, { cls := .type "list", data := .seq its.toArray n }) (by simp)
  have p2 : H D = none := p2
  have p3 : D ≠ X.env.locals := p3
  have p1 : s.heap.get? D = some { cls := .type "list", data := .seq its.toArray n } := p1
  have up : ∀ b o, H b = some o → upd H D (.lst xs) b = some o := fun b o e => by rw [upd_ne (ne_of_none e p2)]; exact e
  refine ⟨p2, ⟨In.ok, In.os, In.bare, ⟨In.base.keep, In.base.slot, fun b o q n hx => ?_, In.base.there, fun b ys q => up _ _ (In.base.tups b ys q), fun b o u q => up _ _ (In.base.frzs b o u q), fun b ps q => ?_⟩, In.loc, In.cell, ?_, fun x c q => ?_, fun p hp => ?_, fun b o q => ?_, In.len⟩⟩
  · have e := In.base.free b o q n hx
    by_cases q' : b = D
    · subst q'
      exact (h1 o q n hx).elim
    · rw [upd_ne q']; exact e
  · obtain ⟨more, z⟩ := In.base.tbls b ps q
    exact ⟨more, up _ _ z⟩
  · rw [upd_ne (Ne.symm p3)]
    exact In.free
  · rw [upd_ne]
    · exact In.freeC x c q
    · intro z
      obtain ⟨v, o, ho, hd⟩ := In.cell x c q
      rw [z, p1] at ho
      cases ho
      cases hd
  · obtain ⟨a1, a2, a3, a4, a5⟩ := In.pin p (by
      rcases List.mem_append.mp hp with h | h
      · exact List.mem_append_left _ h
      · exact List.mem_append_right _ (List.mem_append_left _ h))
    exact ⟨a1, by rw [upd_ne (h2 p hp)]; exact a2, a3, a4, a5⟩
  · by_cases q' : b = D
    · subst q'
      rw [upd_same] at q
      cases q
      exact ⟨z, its, n, r, p1⟩
    · rw [upd_ne q'] at q
      exact (In.hok b o q).stay (fun _ _ _ q => q) (fun c q => up _ _ q) fun c ys q => up _ _ q
theorem wipe_wipe (σ : L2.St) (own : List Nat) : wipe (wipe σ own) own = wipe σ own := by
  have h : ∀ (l : List Nat) (τ : L2.St), (∀ i ∈ l, i ∈ own) → wipe (wipe τ l) own = wipe τ own := fun l => by
    induction l with
    | nil => intro τ _; rfl
    | cons i l ih =>
      intro τ hh
      show wipe ((wipe τ l).set i none) own = wipe τ own
      rw [wipe_set (hh i (by simp))]
      exact ih τ fun j hj => hh j (by simp [hj])
  exact h own σ fun _ h => h
theorem PE_aside {t : TE} (h : PE X e t) : PE X e (fun σ H Q => ∃ (D : Addr) (xs : List V), H D = some (.lst xs) ∧ t σ (era H D) fun y H' => H' D = none → Q y (upd H' D (.lst xs))) := by
  refine ⟨fun pins s σ H Q In ⟨D, xs, hD, q⟩ => ?_⟩
  obtain ⟨h1, h2, its, n, r, z, I1⟩ := inv_aside In hD
  refine thn (h.run _ s σ _ _ I1 q) fun v s1 ⟨x, H', I2, rx, q2⟩ => ?_
  obtain ⟨n2, I3⟩ := inv_back h1 h2 r z I2
  exact ⟨x, _, I3, rx, q2 n2⟩
theorem PTs_aside {ifs : List Expr} {t : TT} (h : PTs X ifs t) : PTs X ifs (fun σ H Q => ∃ (D : Addr) (xs : List V), H D = some (.lst xs) ∧ t σ (era H D) fun y H' => H' D = none → Q y (upd H' D (.lst xs))) := by
  refine ⟨fun pins s σ H Q In ⟨D, xs, hD, q⟩ => ?_⟩
  obtain ⟨h1, h2, its, n, r, z, I1⟩ := inv_aside In hD
  refine thn (h.run _ s σ _ _ I1 q) fun v s1 ⟨H', I2, q2⟩ => ?_
  obtain ⟨n2, I3⟩ := inv_back h1 h2 r z I2
  exact ⟨_, I3, q2 n2⟩
theorem PG_aside {t : TG} (h : PG X e t) : PG X e (fun v σ H Q => ∃ (D : Addr) (xs : List V), H D = some (.lst xs) ∧ t v σ (era H D) fun σ' H' => H' D = none → Q σ' (upd H' D (.lst xs))) := by
  refine ⟨fun pins s σ H v u Q In rv ⟨D, xs, hD, q⟩ => ?_⟩
  obtain ⟨h1, h2, its, n, r, z, I1⟩ := inv_aside In hD
  refine thn (h.run _ s σ _ v u _ I1 rv q) fun _ s1 ⟨σ', H', I2, q2⟩ => ?_
  obtain ⟨n2, I3⟩ := inv_back h1 h2 r z I2
  exact ⟨σ', _, I3, q2 n2⟩
theorem compL_noexc (gd : Sto → Prop) (env : Env) : ∀ (xs : List W) (S : Sto), (∃ ws S', compL g ta el gd env xs S = .ok ws S') ∨ compL g ta el gd env xs S = .bad
  | [], S => by
    unfold compL
    split
    · exact .inl ⟨_, _, rfl⟩
    · exact .inr rfl
  | x :: xs, S => by
    unfold compL
    split
    · split
      · exact .inr rfl
      · rename_i e1 _
        generalize ta e1 S = r1
        cases r1 with
        | bad => exact .inr rfl
        | exc c x S1 => exact .inr rfl
        | ok c S1 =>
          show (∃ ws S', (if c = true then _ else _) = R.ok ws S') ∨ (if c = true then _ else _) = R.bad
          split
          · generalize el e1 S1 = r2
            cases r2 with
            | bad => exact .inr rfl
            | exc c x S1 => exact .inr rfl
            | ok y S2 =>
              show (∃ ws S', (compL g ta el gd env xs S2).bind _ = R.ok ws S') ∨ (compL g ta el gd env xs S2).bind _ = R.bad
              rcases compL_noexc gd env xs S2 with ⟨ws, S', e⟩ | e
              · rw [e]; exact .inl ⟨_, _, rfl⟩
              · rw [e]; exact .inr rfl
          · exact compL_noexc gd env xs S1
    · exact .inr rfl
/-- how a comprehension's list ends up -/
inductive CFin (I : Inf) : (List W → Sto → R W) → Prop
  | plain : CFin I fun ws S2 => if ws.length ≤ 16777216 then (match plainL ws with
    | some xs => .ok (.d (.lst xs)) S2
    | none => .bad) else .bad
  | cell : CFin I fun ws S2 => if ws.length ≤ 16777216 then .ok (.c S2.length) (S2 ++ [.lst ws]) else .bad
theorem CFin.end_ {fin : List W → Sto → R W} (c : CFin I fin) {ws : List W} {us : List V} {S : Sto} {M : List Addr} {H : Hp} {D : Addr} {Q : VK} {E : XK} (s : Sim I S M H) (r : RepWs I M (mask S M H) ws us) (nD : H D = none)
    (p : EndR I S M H (RepW I) Q E (fin ws S)) : Q (.ref D) (upd H D (.lst us)) := by
  cases c with
  | plain =>
    dsimp only at p
    split at p
    · split at p
      · rename_i xs hx
        exact new_d p s nD fun H' h ex => .lst h ((plainL_rep r hx).mono ex)
      · exact p.elim
    · exact p.elim
  | cell =>
    dsimp only at p
    split at p
    · exact new_c p s nD (lows_of s r) ⟨us, rfl, r⟩ (by intro z; cases z)
    · exact p.elim
theorem CFin.len {fin : List W → Sto → R W} (c : CFin I fin) {ws : List W} {S : Sto} (h : fin ws S ≠ .bad) : ws.length ≤ 16777216 := by
  cases c with
  | plain =>
    dsimp only at h
    split at h
    · assumption
    · exact absurd rfl h
  | cell =>
    dsimp only at h
    split at h
    · assumption
    · exact absurd rfl h
abbrev aT (t : TT) : TT := fun σ H Q => ∃ (D : Addr) (xs : List V), H D = some (.lst xs) ∧ t σ (era H D) fun y H' => H' D = none → Q y (upd H' D (.lst xs))
abbrev aE (t : TE) : TE := fun σ H Q => ∃ (D : Addr) (xs : List V), H D = some (.lst xs) ∧ t σ (era H D) fun y H' => H' D = none → Q y (upd H' D (.lst xs))
abbrev aG (t : TG) : TG := fun v σ H Q => ∃ (D : Addr) (xs : List V), H D = some (.lst xs) ∧ t v σ (era H D) fun σ' H' => H' D = none → Q σ' (upd H' D (.lst xs))
theorem comp_rd {own : List Nat} {fin : List W → Sto → R W} (c : CFin I fin) (hv : ∀ i ∈ vs, i ∈ own) {σ : L2.St} {H : Hp} {Q : VK}
    (q : rdE I w (fun e S => (di e S).bind fun p S1 => (compL g ta el p.2 (uns own e) p.1 S1).bind fin) σ H Q) : tLc (rdI I w di) (aG (rdG I g vs)) (aT (rdT I w0 ta)) (aE (rdE I w0 el)) own σ H Q := by
  obtain ⟨env, S, M, s, sl, p⟩ := q
  refine ⟨env, S, M, s, sl, ?_⟩
  dsimp only at p
  generalize di env S = r at p ⊢
  cases r with
  | bad => exact p
  | exc c x S1 => exact p
  | ok qq S1 =>
    obtain ⟨xs, gd⟩ := qq
    intro J1 H1 M1 l1 s1 wk D nD
    have p : EndR I S1 M1 H1 (RepW I) Q (fun cls dd H' => w cls dd σ H') ((compL g ta el gd (uns own env) xs S1).bind fin) := EndR.up (r := (compL g ta el gd (uns own env) xs S1).bind fin) p l1
    have sl1 := sl.mono l1
    refine ⟨fun i m H' => ∃ (S' : Sto) (M' : List Addr) (Hs : Hp) (accW : List W) (acc : List V), H' = upd Hs D (.lst acc) ∧ Hs D = none ∧ m = xs.length - i ∧ i ≤ xs.length ∧ Le S1 M1 H1 S' M' Hs ∧ Sim I S' M' Hs ∧ RepWs I M' (mask S' M' Hs) accW acc ∧
      EndR I S' M' Hs (RepW I) Q (fun cls dd H' => w cls dd σ H') ((compL g ta el gd (uns own env) (xs.drop i) S').bind fun ys S3 => fin (accW ++ ys) S3),
      ⟨_, S1, M1, H1, [], [], rfl, nD, rfl, Nat.zero_le _, Le.refl, s1, .nil, p⟩, fun i m H' ⟨S', M', Hs, accW, acc, eH, nDs, hm, hi, l', s', ra, p'⟩ => ?_⟩
    subst eH
    have exs : Ex Hs (upd Hs D (.lst acc)) := fun a o e => by rw [upd_ne (ne_of_none e nDs)]; exact e
    rcases Nat.lt_or_ge i xs.length with hlt | hge
    · right
      rw [List.drop_eq_getElem_cons hlt] at p'
      have hbad : compL g ta el gd (uns own env) (xs[i] :: xs.drop (i + 1)) S' ≠ .bad := fun z => by rw [z] at p'; exact p'
      have e0 := compL.eq_def g ta el gd (uns own env) (xs[i] :: xs.drop (i + 1)) S'
      dsimp only at e0
      have hgd : gd S' := by
        by_cases z : gd S'
        · exact z
        · rw [if_neg z] at e0
          exact absurd e0 hbad
      rw [if_pos hgd] at e0
      rw [e0] at p'
      clear e0 hbad
      obtain ⟨hgo, hy⟩ := wk.item S' M' Hs _ l' s' exs hgd i _ (List.getElem?_eq_getElem hlt)
      refine ⟨hgo, fun H2 => ∃ (S' : Sto) (M' : List Addr) (Hs : Hp) (accW : List W) (acc : List V), H2 = upd Hs D (.lst acc) ∧ Hs D = none ∧ Le S1 M1 H1 S' M' Hs ∧ Sim I S' M' Hs ∧ RepWs I M' (mask S' M' Hs) accW acc ∧
        EndR I S' M' Hs (RepW I) Q (fun cls dd H' => w cls dd σ H') ((compL g ta el gd (uns own env) (xs.drop (i + 1)) S').bind fun ys S3 => fin (accW ++ ys) S3),
        fun H2 ⟨S', M', Hs, accW, acc, a1, a2, a3, a4, a5, a6⟩ => ⟨_, by omega, S', M', Hs, accW, acc, a1, a2, rfl, hlt, a3, a4, a5, a6⟩, fun v H3 hyl => ?_⟩
      -- the item
      obtain ⟨Hs3, e3, nD3, s3, l3, r3⟩ : ∃ Hs3, H3 = upd Hs3 D (.lst acc) ∧ Hs3 D = none ∧ Sim I S' M' Hs3 ∧ Le S' M' Hs S' M' Hs3 ∧ RepW I M' (mask S' M' Hs3) xs[i] v := by
        rcases hy v H3 hyl with ⟨rfl, r3⟩ | ⟨T, us, ys, nT, rfl, rfl, ex, rs⟩
        · exact ⟨Hs, rfl, nDs, s', Le.refl, r3⟩
        · have TD : T ≠ D := fun z => by rw [z, upd_same] at nT; cases nT
          have nT' : Hs T = none := by rw [upd_ne TD] at nT; exact nT
          obtain ⟨a1, a2⟩ := s'.new (o := .tup us) nT'
          refine ⟨upd Hs T (.tup us), ?_, by rw [upd_ne (Ne.symm TD)]; exact nDs, a1, a2, ?_⟩
          · funext a
            by_cases z1 : a = T
            · rw [z1, upd_same, upd_ne TD, upd_same]
            · rw [upd_ne z1]
              by_cases z2 : a = D
              · rw [z2, upd_same, upd_same]
              · rw [upd_ne z2, upd_ne z2, upd_ne z1]
          · rw [ex]
            exact .tup (.inl (.inl (mask_new s' nT'))) (rs.mono a2.ex)
      subst e3
      refine ⟨D, acc, upd_same, ?_⟩
      rw [era_upd nD3]
      have slb : Slots I M' (mask S' M' Hs3) (uns own env) (wipe σ own) := uns_wipe ((sl1.mono l').mono l3) own
      split at p'
      · exact p'.elim
      rename_i e1 he1
      refine ⟨_, _, S', M', s3, slb, r3, e1, he1, fun σ2 sl2 hw nD4 => ⟨by rw [hw own hv]; exact wipe_wipe _ _, D, acc, upd_same, ?_⟩⟩
      rw [era_upd nD4]
      have p' := EndR.up p' l3
      refine ⟨e1, S', M', s3, sl2, ?_⟩
      generalize ta e1 S' = rt at p' ⊢
      cases rt with
      | bad => exact p'.elim
      | exc c x S2 => exact p'.elim
      | ok cc S2 =>
        intro b H4 M4 l4 s4 eb nD5
        subst eb
        have p' : EndR I S' M' Hs3 (RepW I) Q (fun cls dd H' => w cls dd σ H') ((if cc = true then ((el e1 S2).ne.bind fun y S2 => (compL g ta el gd (uns own env) (xs.drop (i + 1)) S2).bind fun ys S3 => .ok (y :: ys) S3) else compL g ta el gd (uns own env) (xs.drop (i + 1)) S2).bind fun ys S3 => fin (accW ++ ys) S3) := p'
        have p' := EndR.up p' l4
        have l5 := (l'.trans l3).trans l4
        cases cc with
        | false =>
          exact ⟨S2, M4, H4, accW, acc, rfl, nD5, l5, s4, (ra.mono l3).mono l4, p'⟩
        | true =>
          refine ⟨D, acc, upd_same, ?_⟩
          rw [era_upd nD5]
          refine ⟨e1, S2, M4, s4, sl2.mono l4, ?_⟩
          have p' : EndR I S2 M4 H4 (RepW I) Q (fun cls dd H' => w cls dd σ H') (((el e1 S2).ne.bind fun y S2 => (compL g ta el gd (uns own env) (xs.drop (i + 1)) S2).bind fun ys S3 => .ok (y :: ys) S3).bind fun ys S3 => fin (accW ++ ys) S3) := p'
          generalize el e1 S2 = re at p' ⊢
          cases re with
          | bad => exact p'.elim
          | exc c x S3 => exact p'.elim
          | ok y S3 =>
            intro vy H6 M6 l6 s6 ry nD6
            have p' : EndR I S2 M4 H4 (RepW I) Q (fun cls dd H' => w cls dd σ H') (((compL g ta el gd (uns own env) (xs.drop (i + 1)) S3).bind fun ys S3 => .ok (y :: ys) S3).bind fun ys S3 => fin (accW ++ ys) S3) := p'
            have p' := EndR.up p' l6
            have ra6 := ((ra.mono l3).mono l4).mono l6
            have hb : ∃ ys S4, compL g ta el gd (uns own env) (xs.drop (i + 1)) S3 = .ok ys S4 ∧ fin (accW ++ y :: ys) S4 ≠ .bad := by
              rcases compL_noexc (g := g) (ta := ta) (el := el) gd (uns own env) (xs.drop (i + 1)) S3 with ⟨ys, S4, e⟩ | e
              · rw [e] at p'
                exact ⟨ys, S4, e, fun z => by
                  have p' : EndR I S3 M6 H6 (RepW I) Q (fun cls dd H' => w cls dd σ H') (fin (accW ++ y :: ys) S4) := p'
                  rw [z] at p'
                  exact p'⟩
              · rw [e] at p'
                exact p'.elim
            obtain ⟨ys, S4, ec, hnb⟩ := hb
            have hlen := c.len hnb
            refine ⟨acc, upd_same, ?_, S3, M6, H6, accW ++ [y], acc ++ [vy], upd_upd, nD6, l5.trans l6, s6, RepWs.app ra6 (.cons ry .nil), ?_⟩
            · rw [sizeLine_eq, ← Paired.length ra6]
              simp at hlen
              omega
            · rw [ec] at p' ⊢
              have : accW ++ [y] ++ ys = accW ++ y :: ys := by simp
              show EndR I S3 M6 H6 (RepW I) Q (fun cls dd H' => w cls dd σ H') (fin (accW ++ [y] ++ ys) S4)
              rw [this]
              exact p'
    · left
      have hi' : i = xs.length := by omega
      subst hi'
      rw [List.drop_length] at p'
      unfold compL at p'
      split at p'
      · rename_i hgd
        have p' : EndR I S' M' Hs (RepW I) Q (fun cls dd H' => w cls dd σ H') (fin (accW ++ []) S') := p'
        rw [List.append_nil] at p'
        exact ⟨wk.stop S' M' Hs _ l' s' exs hgd, c.end_ s' ra nDs p'⟩
      · exact p'.elim
end
end Py

/-! Py11: what a loop walks; comprehensions as values and stored. -/
namespace Py
open PySem PySem.Spec PyProof.Rows L2
/-- the items of a list, tuple or text, and what must stay of the store -/
@[simp] def itemsOf : W → Sto → Option (List W × (Sto → Prop))
  | .d (.str x), _ => some (x.cps.toList.map fun c => .d (.str ⟨#[c]⟩), fun _ => True)
  | .d (.tup xs), _ => some (xs.map W.d, fun _ => True)
  | .d (.lst xs), _ => some (xs.map W.d, fun _ => True)
  | .d (.lsx xs), _ => some (xs.map W.d, fun _ => True)
  | .c i, S => match S[i]? with
    | some (.lst ws) => some (ws, fun S' => S'[i]? = some (.lst ws))
    | _ => none
  | _, _ => none
@[simp] def iAny (a : DE) : DI := fun e S => (a e S).bind fun x S1 => match itemsOf x S1 with
  | some p => .ok p S1
  | none => .bad
def rng (lo hi : Int) : List W := (List.range (hi - lo).toNat).map fun (i : Nat) => W.d (.int (lo + i))
@[simp] def smallI (i : Int) : Bool := decide (-(2 ^ 62) ≤ i) && decide (i < 2 ^ 62)
@[simp] def ofO {α : Type} (o : Option α) (S : Sto) : R α := match o with
  | some a => .ok a S
  | none => .bad
@[simp] def rg1 : W → Option (List W × (Sto → Prop))
  | .d (.int n) => if smallI n = true then some (rng 0 n, fun _ => True) else none
  | _ => none
@[simp] def rg2 : W → W → Option (List W × (Sto → Prop))
  | .d (.int m), .d (.int n) => if smallI m = true ∧ smallI n = true then some (rng m n, fun _ => True) else none
  | _, _ => none
/-- lo, lo - 1, .. above hi -/
def rngD (lo hi : Int) : List W := (List.range (lo - hi).toNat).map fun (i : Nat) => W.d (.int (lo - i))
@[simp] def rg3 : W → W → W → Option (List W × (Sto → Prop))
  | .d (.int m), .d (.int n), .d (.int q) => if smallI m = true ∧ smallI n = true ∧ q = -1 then some (rngD m n, fun _ => True) else none
  | _, _, _ => none
@[simp] def iRange1 (a : DE) : DI := fun e S => (a e S).bind fun x S1 => ofO (rg1 x) S1
@[simp] def iRange2 (a b : DE) : DI := fun e S => (a e S).bind fun x S1 => (b e S1).bind fun y S2 => ofO (rg2 x y) S2
@[simp] def iRange3 (a b c : DE) : DI := fun e S => (a e S).bind fun x S1 => (b e S1).bind fun y S2 => (c e S2).bind fun z S3 => ofO (rg3 x y z) S3
section
variable {J : Jn} {X : Cx} {I : Inf} {w : WX} {F Fi : FnTab} {k : Nat} {a b c e o tg iter elt : Expr} {es rest ifs : List Expr} {da db dc d_o el : DE} {dr : DA} {ta : DT} {pos p p2 : Pos} {st : Stmt} {sts sts' : List Stmt} {ds dt : DS} {di : DI} {g : GT} {vs : List Nat} {scope : Scope} {own : List (Str × Nat)}
theorem wk_list {a : Addr} {xs : List W} {gd : Sto → Prop} {S : Sto} {M : List Addr} {H : Hp} (h : ∀ S2 M2 Hs, Le S M H S2 M2 Hs → Sim I S2 M2 Hs → gd S2 → ∃ vs, SqL I.K Hs a vs ∧ RepWs I M2 (mask S2 M2 Hs) xs vs) : WalkI I (Itl I.K a) xs gd S M H where
  item := fun S2 M2 Hs H2 l s ex hg i x hx => by
    obtain ⟨vs, h1, h2⟩ := h S2 M2 Hs l s hg
    obtain ⟨v, e1, e2⟩ := paired_get h2 hx
    refine ⟨⟨vs, v, ex_l ex h1, e1⟩, fun u H3 hy => .inl ⟨hy.1, ?_⟩⟩
    have := hy.2 vs (ex_l ex h1)
    rw [e1] at this
    cases this
    exact e2
  stop := fun S2 M2 Hs H2 l s ex hg => by
    obtain ⟨vs, h1, h2⟩ := h S2 M2 Hs l s hg
    exact ⟨vs, ex_l ex h1, by rw [Paired.length h2]; exact Nat.le_refl _⟩
theorem wk_tup {a : Addr} {xs : List W} {gd : Sto → Prop} {S : Sto} {M : List Addr} {H : Hp} (h : ∀ S2 M2 Hs, Le S M H S2 M2 Hs → Sim I S2 M2 Hs → gd S2 → ∃ vs, SqT I.K Hs a vs ∧ RepWs I M2 (mask S2 M2 Hs) xs vs) : WalkI I (Itt I.K a) xs gd S M H where
  item := fun S2 M2 Hs H2 l s ex hg i x hx => by
    obtain ⟨vs, h1, h2⟩ := h S2 M2 Hs l s hg
    obtain ⟨v, e1, e2⟩ := paired_get h2 hx
    refine ⟨⟨vs, v, ex_t ex h1, e1⟩, fun u H3 hy => .inl ⟨hy.1, ?_⟩⟩
    have := hy.2 vs (ex_t ex h1)
    rw [e1] at this
    cases this
    exact e2
  stop := fun S2 M2 Hs H2 l s ex hg => by
    obtain ⟨vs, h1, h2⟩ := h S2 M2 Hs l s hg
    exact ⟨vs, ex_t ex h1, by rw [Paired.length h2]; exact Nat.le_refl _⟩
theorem wk_str {z : Str} {gd : Sto → Prop} {S : Sto} {M : List Addr} {H : Hp} : WalkI I (Its z) (z.cps.toList.map fun c => .d (.str ⟨#[c]⟩)) gd S M H where
  item := fun S2 M2 Hs H2 l s ex hg i x hx => by
    rw [List.getElem?_map] at hx
    cases q : z.cps.toList[i]? with
    | none => rw [q] at hx; cases hx
    | some c =>
      rw [q] at hx
      have hx : W.d (.str ⟨#[c]⟩) = x := by simpa using hx
      subst hx
      have q' : z.cps[i]? = some c := by rw [← Array.getElem?_toList]; exact q
      refine ⟨(Array.getElem?_eq_some_iff.mp q').1, fun u H3 hy => .inl ⟨hy.1, ?_⟩⟩
      obtain ⟨c', e1, rfl⟩ := hy.2
      rw [q'] at e1
      cases e1
      exact .str _
  stop := fun S2 M2 Hs H2 l s ex hg => by
    show z.cps.size ≤ _
    simp
theorem rng_get {lo : Int} {n : Nat} {i : Nat} {x : W} {f : Nat → Int} (h : ((List.range n).map fun (i : Nat) => W.d (.int (f i)))[i]? = some x) : i < n ∧ x = .d (.int (f i)) := by
  rw [List.getElem?_map] at h
  by_cases hi : i < n
  · rw [List.getElem?_range hi] at h
    exact ⟨hi, by simpa using h.symm⟩
  · rw [List.getElem?_eq_none (by simpa using hi)] at h
    cases h
theorem wk_range {lo hi : Int} {gd : Sto → Prop} {S : Sto} {M : List Addr} {H : Hp} : WalkI I (Itr lo (hi - lo).toNat) (rng lo hi) gd S M H where
  item := fun S2 M2 Hs H2 l s ex hg i x hx => by
    obtain ⟨h1, rfl⟩ := rng_get (lo := lo) (f := fun i => lo + i) hx
    refine ⟨h1, fun u H3 hy => .inl ⟨hy.1, ?_⟩⟩
    rw [hy.2]
    exact .int _
  stop := fun S2 M2 Hs H2 l s ex hg => by
    show _ ≤ _
    simp [rng]
theorem wk_rangeD {lo hi : Int} {gd : Sto → Prop} {S : Sto} {M : List Addr} {H : Hp} : WalkI I (Itc lo (-1) (lo - hi).toNat) (rngD lo hi) gd S M H where
  item := fun S2 M2 Hs H2 l s ex hg i x hx => by
    obtain ⟨h1, rfl⟩ := rng_get (lo := lo) (f := fun i => lo - i) hx
    refine ⟨h1, fun u H3 hy => .inl ⟨hy.1, ?_⟩⟩
    rw [hy.2]
    have : lo + (i : Nat) * (-1 : Int) = lo - (i : Nat) := by omega
    rw [this]
    exact .int _
  stop := fun S2 M2 Hs H2 l s ex hg => by
    show _ ≤ _
    simp [rngD]
/-- an iterator over what a value is -/
theorem iter_any {pins : List (Addr × Obj)} {σ : L2.St} {H : Hp} {s : Shared} {x : W} {v : V} {u : Value} {S : Sto} {M : List Addr} {R : It → Hp → Prop} {E : Value → Shared → Prop} {q : List W × (Sto → Prop)} (In : Inv X pins σ H s) (rv : RelV v u) (sim : Sim ⟨X.K, I.G, I.fl⟩ S M H) (rx : RepW ⟨X.K, I.G, I.fl⟩ M (mask S M H) x v) (e : itemsOf x S = some q)
    (k : ∀ J, WalkI ⟨X.K, I.G, I.fl⟩ J q.1 q.2 S M H → R J H) : wpAny (model X.prog X.w) X.A (pyIter u) (PIE X pins σ tg R) E s := by
  have lst : ∀ {a : Addr} {xs : List V}, SqL X.K H a xs → R (Itl X.K a) H → wpAny (model X.prog X.w) X.A (pyIter (.ref a)) (PIE X pins σ tg R) E s := fun {a xs} hq q => by
    obtain ⟨its, rv, p, hz⟩ := In.list hq
    refine wpAny_pyIter_list p.isList ?_
    refine ⟨s.heap.objs.size, [s.heap.objs.size], _, _, H, rfl, In.kept (t' := s.toks) fun b o e => Heap.get?_push_of_some _ e, turn_list a _, ⟨_, Heap.get?_push_size _ rfl, rfl, rfl⟩, fun b hb => ?_, q⟩
    have e : b = s.heap.objs.size := by simpa using hb
    subst e
    exact In.fpOk (Nat.le_refl _) (In.hok.fresh (Nat.le_refl _))
  unfold itemsOf at e
  split at e
  · cases e
    cases rx
    obtain ⟨t, rfl⟩ := rv
    rename_i z
    cases ha : z.cps.all (· < 128)
    · exact wpAny_pyIter_wide ha (pi_one (tk := s.toks) In _ (turn_str _ z t "str_iterator" (.inr rfl)) ⟨_, Heap.get?_push_size _ rfl, rfl, rfl⟩ (k _ wk_str))
    · exact wpAny_pyIter_ascii ha (pi_one (tk := s.toks) In _ (turn_str _ z t "str_ascii_iterator" (.inl rfl)) ⟨_, Heap.get?_push_size _ rfl, rfl, rfl⟩ (k _ wk_str))
  · cases e
    cases rx with
    | tup h r =>
    cases rv
    rename_i a vs
    obtain ⟨its, rv, p, hz⟩ := In.tuple (ex_t mask_ex h)
    refine wpAny_pyIter_tuple (show s.heap.IsTuple a its.toArray from p) ?_
    refine ⟨s.heap.objs.size, [s.heap.objs.size], _, _, H, rfl, In.kept (t' := s.toks) fun b o e => Heap.get?_push_of_some _ e, turn_tuple a _, ⟨_, Heap.get?_push_size _ rfl, rfl, rfl⟩, fun b hb => ?_,
      k _ (wk_tup fun S2 M2 Hs l s2 _ => ⟨vs, ex_t ((l.ex).trans mask_ex) h, reps_map (r.mono l.ex)⟩)⟩
    have e : b = s.heap.objs.size := by simpa using hb
    subst e
    exact In.fpOk (Nat.le_refl _) (In.hok.fresh (Nat.le_refl _))
  · cases e
    cases rx with
    | lst h r =>
    cases rv
    exact lst (.inl (.inl (mask_ex _ _ h))) (k _ (wk_list fun S2 M2 Hs l s2 _ => ⟨_, .inl (.inl (mask_ex _ _ (l.ex _ _ h))), reps_map (r.mono l.ex)⟩))
  · cases e
    cases rx with
    | lsx h r =>
    cases rv
    exact lst (ex_l mask_ex h) (k _ (wk_list fun S2 M2 Hs l s2 _ => ⟨_, ex_l ((l.ex).trans mask_ex) h, reps_map (r.mono l.ex)⟩))
  · split at e
    · rename_i ws hc
      cases e
      obtain ⟨a, ea, rfl⟩ := rx
      cases rv
      obtain ⟨vs, ho, q⟩ := sim.cell _ _ a hc ea
      refine lst (.inl (.inl ho)) (k _ (wk_list fun S2 M2 Hs l s2 hg => ?_))
      obtain ⟨vs2, ho2, q2⟩ := s2.cell _ _ a hg (pre_get l.pre ea)
      exact ⟨vs2, .inl (.inl ho2), q2⟩
    · cases e
  · cases e
theorem si_any (he : PE X e (rdE ⟨X.K, I.G, I.fl⟩ w da)) : PI X tg e (rdI ⟨X.K, I.G, I.fl⟩ w (iAny da)) := by
  refine ⟨fun pins s σ H R In ⟨env, S, M, sim, sl, p⟩ => ?_⟩
  have q : rdE ⟨X.K, I.G, I.fl⟩ w da σ H (fun v H' => ∃ (x : W) (S' : Sto) (M' : List Addr) (q : List W × (Sto → Prop)), Sim ⟨X.K, I.G, I.fl⟩ S' M' H' ∧ RepW ⟨X.K, I.G, I.fl⟩ M' (mask S' M' H') x v ∧ itemsOf x S' = some q ∧ ∀ J, WalkI ⟨X.K, I.G, I.fl⟩ J q.1 q.2 S' M' H' → R J H') := by
    refine ⟨env, S, M, sim, sl, ?_⟩
    dsimp only [iAny] at p
    generalize da env S = r at p ⊢
    cases r with
    | bad => exact p
    | exc c x S1 => exact p
    | ok x S1 =>
      intro v H' M' l s' r
      dsimp only [Py.R.bind] at p
      cases hq : itemsOf x S1 with
      | none => rw [hq] at p; exact p.elim
      | some q =>
        rw [hq] at p
        exact ⟨x, _, M', q, s', r, hq, fun J wk => p J H' M' l s' wk⟩
  exact thn (he.run pins s σ H _ In q) fun u s1 ⟨v, H1, I1, rv, x, S', M', q, s', r, e, k⟩ => iter_any I1 rv s' r e k
theorem sm_of {i : Int} (h : smallI i = true) : -(2 ^ 62) ≤ i ∧ i < 2 ^ 62 := by
  simpa using h
/-- what an ending asks of a walk -/
def EndI (I : Inf) (S : Sto) (M : List Addr) (H : Hp) (R : It → Hp → Prop) (E : XK) : Py.R (List W × (Sto → Prop)) → Prop
  | .ok p S' => ∀ (J : It) (H' : Hp) (M' : List Addr), Le S M H S' M' H' → Sim I S' M' H' → WalkI I J p.1 p.2 S' M' H' → R J H'
  | .exc c x S' => ∀ (cls : Value) (dd : Option Addr) (H' : Hp) (M' : List Addr), Le S M H S' M' H' → Sim I S' M' H' → RepX I (mask S' M' H') c x cls dd → E cls dd H'
  | .bad => False
theorem EndI.up {S S1 : Sto} {M M1 : List Addr} {H H1 : Hp} {R : It → Hp → Prop} {E : XK} {r : Py.R (List W × (Sto → Prop))} (h : EndI I S M H R E r) (l : Le S M H S1 M1 H1) : EndI I S1 M1 H1 R E r := by
  cases r with
  | ok a S' => exact fun J H' M' l' => h J H' M' (l.trans l')
  | exc c x S' => exact fun cls dd H' M' l' => h cls dd H' M' (l.trans l')
  | bad => exact h
theorem rdI_at {σ : L2.St} {env : Env} {S : Sto} {M : List Addr} {H : Hp} {R : It → Hp → Prop} {f : W → Sto → Py.R (List W × (Sto → Prop))} {P : V → Hp → Prop} (s : Sim I S M H) (sl : Slots I M (mask S M H) env σ) (p : EndI I S M H R (fun cls dd H' => w cls dd σ H') ((da env S).bind f))
    (k : ∀ (x : W) (v : V) (S1 : Sto) (M1 : List Addr) (H1 : Hp), Le S M H S1 M1 H1 → Sim I S1 M1 H1 → Slots I M1 (mask S1 M1 H1) env σ → RepW I M1 (mask S1 M1 H1) x v → EndI I S1 M1 H1 R (fun cls dd H' => w cls dd σ H') (f x S1) → P v H1) : rdE I w da σ H P := by
  refine ⟨env, S, M, s, sl, ?_⟩
  generalize da env S = r at p ⊢
  cases r with
  | ok x S1 => exact fun v H' M' l' s' r' => k x v S1 M' H' l' s' (sl.mono l') r' (EndI.up (r := f x S1) p l')
  | exc c x S1 => exact p
  | bad => exact p
theorem EndI.of {S : Sto} {M : List Addr} {H : Hp} {R : It → Hp → Prop} {E : XK} {o : Option (List W × (Sto → Prop))} (h : EndI I S M H R E (ofO o S)) (s : Sim I S M H) : ∃ p, o = some p ∧ ∀ J, WalkI I J p.1 p.2 S M H → R J H := by
  cases o with
  | none => exact h.elim
  | some p => exact ⟨p, rfl, fun J wk => h J H M Le.refl s wk⟩
theorem si_range1 (t : Cok J X w F Fi k) (hb : J.sg.blt "range" = true) (ha : PE X a (rdE (J.inf X.K) w da)) (hg : Gl X "range" := by rfl) (hs : starEach [a] X.env = [(false, eval a X.env)] := by rfl) (hs' : starEach [a] X.env = (false, eval a X.env) :: starEach [] X.env := by rfl) : PI X tg (.Call (.Name "range" p) [a] [] pos) (rdI (J.inf X.K) w (iRange1 da)) :=
  PI_imp (pi_range1 hg (t.glb _ hb) (pa_cons ha pa_nil hs') hs) fun σ H R ⟨env, S, M, sim, sl, p⟩ => by
    show rdE (J.inf X.K) w da σ H fun x H1 => ∃ j : Int, [x] = [.int j] ∧ -(2 ^ 62) ≤ j ∧ j < 2 ^ 62 ∧ R (Itr 0 j.toNat) H1
    refine rdI_at (R := R) (f := fun x S1 => ofO (rg1 x) S1) sim sl p fun x v S1 M1 H1 l1 s1 sl1 r1 p1 => ?_
    obtain ⟨q, hq, kk⟩ := EndI.of p1 s1
    unfold rg1 at hq
    split at hq
    · rename_i n
      split at hq
      · rename_i hn
        cases hq
        cases r1
        have wk : WalkI (J.inf X.K) (Itr 0 (n - 0).toNat) (rng 0 n) (fun _ => True) S1 M1 H1 := wk_range
        rw [Int.sub_zero] at wk
        exact ⟨n, rfl, (sm_of hn).1, (sm_of hn).2, kk _ wk⟩
      · cases hq
    · cases hq
theorem si_range2 (t : Cok J X w F Fi k) (hb : J.sg.blt "range" = true) (ha : PE X a (rdE (J.inf X.K) w da)) (hb' : PE X b (rdE (J.inf X.K) w db)) (hg : Gl X "range" := by rfl) (hs : starEach [a, b] X.env = [(false, eval a X.env), (false, eval b X.env)] := by rfl) (hs2 : starEach [b] X.env = [(false, eval b X.env)] := by rfl)
    (hs' : starEach [a, b] X.env = (false, eval a X.env) :: starEach [b] X.env := by rfl) (hs2' : starEach [b] X.env = (false, eval b X.env) :: starEach [] X.env := by rfl) : PI X tg (.Call (.Name "range" p) [a, b] [] pos) (rdI (J.inf X.K) w (iRange2 da db)) :=
  PI_imp (pi_range2 hg (t.glb _ hb) (pa_cons ha (pa_cons hb' pa_nil hs2') hs') hs hs2) fun σ H R ⟨env, S, M, sim, sl, p⟩ => by
    show rdE (J.inf X.K) w da σ H fun x H1 => rdE (J.inf X.K) w db σ H1 fun y H2 => ∃ i j : Int, [x, y] = [.int i, .int j] ∧ (-(2 ^ 62) ≤ i ∧ i < 2 ^ 62 ∧ -(2 ^ 62) ≤ j ∧ j < 2 ^ 62) ∧ R (Itr i (j - i).toNat) H2
    refine rdI_at (R := R) (f := fun x S1 => (db env S1).bind fun y S2 => ofO (rg2 x y) S2) sim sl p fun x v S1 M1 H1 l1 s1 sl1 r1 p1 => ?_
    refine rdI_at (R := R) (f := fun y S2 => ofO (rg2 x y) S2) s1 sl1 p1 fun y u S2 M2 H2 l2 s2 sl2 r2 p2 => ?_
    obtain ⟨q, hq, kk⟩ := EndI.of p2 s2
    unfold rg2 at hq
    split at hq
    · rename_i m n
      split at hq
      · rename_i hn
        cases hq
        cases r1
        cases r2
        exact ⟨m, n, rfl, ⟨(sm_of hn.1).1, (sm_of hn.1).2, (sm_of hn.2).1, (sm_of hn.2).2⟩, kk _ wk_range⟩
      · cases hq
    · cases hq
theorem si_range3 (t : Cok J X w F Fi k) (hb : J.sg.blt "range" = true) (ha : PE X a (rdE (J.inf X.K) w da)) (hb' : PE X b (rdE (J.inf X.K) w db)) (hc' : PE X c (rdE (J.inf X.K) w dc)) (hg : Gl X "range" := by rfl)
    (hs : starEach [a, b, c] X.env = (false, eval a X.env) :: starEach [b, c] X.env := by rfl) (hpl : (backTo pos (starEach [b, c] X.env)).any (·.1) = false := by rfl)
    (hs2' : starEach [b, c] X.env = (false, eval b X.env) :: starEach [c] X.env := by rfl) (hs3' : starEach [c] X.env = (false, eval c X.env) :: starEach [] X.env := by rfl) : PI X tg (.Call (.Name "range" p) [a, b, c] [] pos) (rdI (J.inf X.K) w (iRange3 da db dc)) :=
  PI_imp (pi_range3 hg (t.glb _ hb) (pa_cons ha (pa_cons hb' (pa_cons hc' pa_nil hs3') hs2') hs) hs hpl) fun σ H R ⟨env, S, M, sim, sl, p⟩ => by
    show rdE (J.inf X.K) w da σ H fun x H1 => rdE (J.inf X.K) w db σ H1 fun y H2 => rdE (J.inf X.K) w dc σ H2 fun z H3 => ∃ (i j c : Int) (n : Nat), [x, y, z] = [.int i, .int j, .int c] ∧ RgC i j c n ∧ R (Itc i c n) H3
    refine rdI_at (R := R) (f := fun x S1 => (db env S1).bind fun y S2 => (dc env S2).bind fun z S3 => ofO (rg3 x y z) S3) sim sl p fun x v S1 M1 H1 l1 s1 sl1 r1 p1 => ?_
    refine rdI_at (R := R) (f := fun y S2 => (dc env S2).bind fun z S3 => ofO (rg3 x y z) S3) s1 sl1 p1 fun y u S2 M2 H2 l2 s2 sl2 r2 p2 => ?_
    refine rdI_at (R := R) (f := fun z S3 => ofO (rg3 x y z) S3) s2 sl2 p2 fun z uz S3 M3 H3 l3 s3 sl3 r3 p3 => ?_
    obtain ⟨q, hq, kk⟩ := EndI.of p3 s3
    unfold rg3 at hq
    split at hq
    · rename_i m n o
      split at hq
      · rename_i hn
        obtain ⟨h1, h2, rfl⟩ := hn
        cases hq
        cases r1
        cases r2
        cases r3
        exact ⟨m, n, -1, _, rfl, RgC.neg (sm_of h1).1 (sm_of h1).2 (sm_of h2).1 (sm_of h2).2, kk _ wk_rangeD⟩
      · cases hq
    · cases hq
/-! ### comprehensions -/
theorem PTs_imp {ifs : List Expr} {t t' : TT} (h : PTs X ifs t) (i : ∀ σ H Q, t' σ H Q → t σ H Q) : PTs X ifs t' := ⟨fun pins s σ H Q I q => h.run pins s σ H Q I (i σ H Q q)⟩
theorem sts_nil : PTs X [] (rdT I w tYesD) := PTs_imp pts_nil fun σ H Q ⟨e, S, M, s, sl, p⟩ => EndR.here (rel := fun _ _ a b => a = b) p s rfl
theorem sts_one (h : PT X a (rdT I w ta)) : PTs X [a] (rdT I w ta) := pts_one h
theorem sx_comp (t : Cok J X w F Fi k) (hi : PI X tg iter (rdI I w di)) (hv : ∀ i ∈ vs, i ∈ own.map (·.2)) (ok : BlkOk X.N X.env.scope scope own)
    (hg : ∀ (s : Shared) (H : Hp) (C : Addr) (cl : List (Str × Addr)) (fp : List Addr), PG (X.blk s H scope (compEnvC scope cl C X.env) fp) tg (rdG I g vs)) (ht : ∀ (s : Shared) (H : Hp) (C : Addr) (cl : List (Str × Addr)) (fp : List Addr), PTs (X.blk s H scope (compEnvC scope cl C X.env) fp) ifs (rdT I w0 ta))
    (he : ∀ (s : Shared) (H : Hp) (C : Addr) (cl : List (Str × Addr)) (fp : List Addr), PE (X.blk s H scope (compEnvC scope cl C X.env) fp) elt (rdE I w0 el)) (hs : ∀ x, foldedSetIterable iter X.env x = pure x := by intro _; rfl) :
    PE X (.ListComp elt [⟨tg, iter, ifs, 0⟩] scope pos) (rdE I w (dComp (own.map (·.2)) g di ta el)) :=
  PE_imp (pe_lc t.calm t.nd hi ok (fun s H C cl fp => PG_aside (hg s H C cl fp)) (fun s H C cl fp => PTs_aside (ht s H C cl fp)) (fun s H C cl fp => PE_aside (he s H C cl fp)) hs) fun σ H Q q => comp_rd .plain hv q
theorem sx_compC (t : Cok J X w F Fi k) (hi : PI X tg iter (rdI I w di)) (hv : ∀ i ∈ vs, i ∈ own.map (·.2)) (ok : BlkOk X.N X.env.scope scope own)
    (hg : ∀ (s : Shared) (H : Hp) (C : Addr) (cl : List (Str × Addr)) (fp : List Addr), PG (X.blk s H scope (compEnvC scope cl C X.env) fp) tg (rdG I g vs)) (ht : ∀ (s : Shared) (H : Hp) (C : Addr) (cl : List (Str × Addr)) (fp : List Addr), PTs (X.blk s H scope (compEnvC scope cl C X.env) fp) ifs (rdT I w0 ta))
    (he : ∀ (s : Shared) (H : Hp) (C : Addr) (cl : List (Str × Addr)) (fp : List Addr), PE (X.blk s H scope (compEnvC scope cl C X.env) fp) elt (rdE I w0 el)) (hs : ∀ x, foldedSetIterable iter X.env x = pure x := by intro _; rfl) :
    PE X (.ListComp elt [⟨tg, iter, ifs, 0⟩] scope pos) (rdE I w (dCompC (own.map (·.2)) g di ta el)) :=
  PE_imp (pe_lc t.calm t.nd hi ok (fun s H C cl fp => PG_aside (hg s H C cl fp)) (fun s H C cl fp => PTs_aside (ht s H C cl fp)) (fun s H C cl fp => PE_aside (he s H C cl fp)) hs) fun σ H Q q => comp_rd .cell hv q
/-- y = [..] -/
theorem ss_comp {i : Nat} {y : Str} {py spos : Pos} {fin : List W → Sto → Py.R W} (c : CFin I fin) (t : Cok J X w F Fi k) (hi : PI X tg iter (rdI I w di)) (hv : ∀ i ∈ vs, i ∈ own.map (·.2)) (ok : BlkOk X.N X.env.scope scope own)
    (hg : ∀ (s : Shared) (H : Hp) (C : Addr) (cl : List (Str × Addr)) (fp : List Addr), PG (X.blk s H scope (compEnvC scope cl C X.env) fp) tg (rdG I g vs)) (ht : ∀ (s : Shared) (H : Hp) (C : Addr) (cl : List (Str × Addr)) (fp : List Addr), PTs (X.blk s H scope (compEnvC scope cl C X.env) fp) ifs (rdT I w0 ta))
    (he : ∀ (s : Shared) (H : Hp) (C : Addr) (cl : List (Str × Addr)) (fp : List Addr), PE (X.blk s H scope (compEnvC scope cl C X.env) fp) elt (rdE I w0 el))
    (hy : X.N[i]? = some y := by rfl) (hyl : X.env.scope.names.lookup y = some .local := by rfl)
    (hsw : swapsWith (.ListComp elt [⟨tg, iter, ifs, 0⟩] scope pos) (some (.Name y py)) spos.line X.env = pure true := by exact sw_true rfl rfl rfl (by decide +kernel)) (hs : ∀ x, foldedSetIterable iter X.env x = pure x := by intro _; rfl) :
    PS X (.Assign [.Name y py] (.ListComp elt [⟨tg, iter, ifs, 0⟩] scope pos) spos) (rdS I w (sAsg (fun e S => (di e S).bind fun p S1 => (compL g ta el p.2 (uns (own.map (·.2)) e) p.1 S1).bind fin) (gNm i))) :=
  PS_imp (ps_setLc t.calm t.nd hy hyl hsw hi ok (fun s H C cl fp => PG_aside (hg s H C cl fp)) (fun s H C cl fp => PTs_aside (ht s H C cl fp)) (fun s H C cl fp => PE_aside (he s H C cl fp)) hs) fun D σ H q => by
    refine comp_rd c hv ?_
    exact rdS_one (f := fun e x S1 => .nx (e.set i (some x)) S1) q fun x v e S M H s sl r p => p _ H M Le.refl s (sl.set r)
theorem lookup_relabel {env : PySem.Env} {x : Str} {k : NameKind} : ∀ {names : List (Str × NameKind)}, names.lookup x = some k → (names.map fun (n, k) => if (k == NameKind.free && env.scope.kind == .function && env.kindOf n == some .cell) then (n, NameKind.cell) else (n, k)).lookup x = some k ∨ (names.map fun (n, k) => if (k == NameKind.free && env.scope.kind == .function && env.kindOf n == some .cell) then (n, NameKind.cell) else (n, k)).lookup x = some .cell
  | [], h => by simp at h
  | (n, k') :: r, h => by
    have ih := lookup_relabel (env := env) (x := x) (k := k) (names := r)
    rw [List.map_cons]
    dsimp only
    cases hx : x == n with
    | true =>
      rw [List.lookup_cons, hx] at h
      cases h
      split
      · exact .inr (by rw [List.lookup_cons, hx])
      · exact .inl (by rw [List.lookup_cons, hx])
    | false =>
      rw [List.lookup_cons, hx] at h
      have := ih h
      split <;> (rw [List.lookup_cons, hx]; exact this)
theorem blkOk_in {N : List Str} {sc scope : Scope} {own : List (Str × Nat)} {env : PySem.Env} (h : BlkOk N sc scope own) : BlkOk N (relabel sc env) scope own :=
  ⟨h.kind, h.uniq, h.ix, fun y hy e => by
    rcases h.free y hy e with q | q
    · rcases lookup_relabel (env := env) q with q | q <;> exact .inl q
    · rcases lookup_relabel (env := env) q with q | q
      · exact .inr q
      · exact .inl q, h.own⟩
/-! zip of two lists, of two tuples -/
def zipP (xs ys : List D) : List W := (xs.zip ys).map fun p => W.d (.tup [p.1, p.2])
def zipO : W → W → Sto → Option (List W × (Sto → Prop))
  | .d (.tup xs), .d (.tup ys), _ => some (zipP xs ys, fun _ => True)
  | x, y, S => match lsOf x S, lsOf y S with
    | some a, some b => match plainL a, plainL b with
      | some xs, some ys => some (zipP xs ys, fun S' => lsOf x S' = some a ∧ lsOf y S' = some b)
      | _, _ => none
    | _, _ => none
def iZip (a b : DE) : DI := fun e S => (a e S).bind fun x S1 => (b e S1).bind fun y S2 => ofO (zipO x y S2) S2
theorem zip_get {α β : Type} {xs : List α} {ys : List β} {i : Nat} {p : α × β} (h : (xs.zip ys)[i]? = some p) : xs[i]? = some p.1 ∧ ys[i]? = some p.2 := by
  rw [List.getElem?_zip_eq_some] at h
  exact h
theorem zipP_get {xs ys : List D} {i : Nat} {x : W} (h : (zipP xs ys)[i]? = some x) : ∃ a b, xs[i]? = some a ∧ ys[i]? = some b ∧ x = .d (.tup [a, b]) := by
  unfold zipP at h
  rw [List.getElem?_map] at h
  cases q : (xs.zip ys)[i]? with
  | none => rw [q] at h; cases h
  | some p =>
    rw [q] at h
    obtain ⟨h1, h2⟩ := zip_get q
    exact ⟨p.1, p.2, h1, h2, by simpa using h.symm⟩
theorem zipP_len {xs ys : List D} : (zipP xs ys).length = min xs.length ys.length := by
  unfold zipP
  simp
theorem reps_get {H : Hp} : ∀ {xs : List D} {vs : List V} {i : Nat} {a : D}, Reps I H xs vs → xs[i]? = some a → ∃ v, vs[i]? = some v ∧ Rep I H a v
  | _, _, _, _, .nil, h => by simp at h
  | _, _, 0, _, .cons r1 rs, h => by cases h; exact ⟨_, rfl, r1⟩
  | _, _, i + 1, _, .cons r1 rs, h => reps_get (i := i) rs h
theorem wk_zipL {a b : Addr} {xs ys : List D} {gd : Sto → Prop} {S : Sto} {M : List Addr} {H : Hp} (h : ∀ S2 M2 Hs, Le S M H S2 M2 Hs → Sim I S2 M2 Hs → gd S2 → ∃ vs us, SqL I.K Hs a vs ∧ SqL I.K Hs b us ∧ Reps I (mask S2 M2 Hs) xs vs ∧ Reps I (mask S2 M2 Hs) ys us) : WalkI I (Itz I.K a b) (zipP xs ys) gd S M H where
  item := fun S2 M2 Hs H2 l s ex hg i x hx => by
    obtain ⟨vs, us, h1, h2, r1, r2⟩ := h S2 M2 Hs l s hg
    obtain ⟨c, d, e1, e2, rfl⟩ := zipP_get hx
    obtain ⟨v, f1, g1⟩ := reps_get r1 e1
    obtain ⟨u, f2, g2⟩ := reps_get r2 e2
    refine ⟨⟨vs, us, v, u, ex_l ex h1, ex_l ex h2, f1, f2⟩, fun w H3 hy => .inr ?_⟩
    obtain ⟨T, v', u', rfl, nT, rfl, k1, k2⟩ := hy
    have := k1 vs (ex_l ex h1)
    rw [f1] at this
    cases this
    have := k2 us (ex_l ex h2)
    rw [f2] at this
    cases this
    exact ⟨T, [v, u], [c, d], nT, rfl, rfl, rfl, .cons g1 (.cons g2 .nil)⟩
  stop := fun S2 M2 Hs H2 l s ex hg => by
    obtain ⟨vs, us, h1, h2, r1, r2⟩ := h S2 M2 Hs l s hg
    refine ⟨vs, us, ex_l ex h1, ex_l ex h2, ?_⟩
    rw [zipP_len, r1.len, r2.len]
    omega
theorem wk_zipT {a b : Addr} {xs ys : List D} {gd : Sto → Prop} {S : Sto} {M : List Addr} {H : Hp} (h : ∀ S2 M2 Hs, Le S M H S2 M2 Hs → Sim I S2 M2 Hs → gd S2 → ∃ vs us, SqT I.K Hs a vs ∧ SqT I.K Hs b us ∧ Reps I (mask S2 M2 Hs) xs vs ∧ Reps I (mask S2 M2 Hs) ys us) : WalkI I (RZ.ItzT I.K a b) (zipP xs ys) gd S M H where
  item := fun S2 M2 Hs H2 l s ex hg i x hx => by
    obtain ⟨vs, us, h1, h2, r1, r2⟩ := h S2 M2 Hs l s hg
    obtain ⟨c, d, e1, e2, rfl⟩ := zipP_get hx
    obtain ⟨v, f1, g1⟩ := reps_get r1 e1
    obtain ⟨u, f2, g2⟩ := reps_get r2 e2
    refine ⟨⟨vs, us, v, u, ex_t ex h1, ex_t ex h2, f1, f2⟩, fun w H3 hy => .inr ?_⟩
    obtain ⟨T, v', u', rfl, nT, rfl, k1, k2⟩ := hy
    have := k1 vs (ex_t ex h1)
    rw [f1] at this
    cases this
    have := k2 us (ex_t ex h2)
    rw [f2] at this
    cases this
    exact ⟨T, [v, u], [c, d], nT, rfl, rfl, rfl, .cons g1 (.cons g2 .nil)⟩
  stop := fun S2 M2 Hs H2 l s ex hg => by
    obtain ⟨vs, us, h1, h2, r1, r2⟩ := h S2 M2 Hs l s hg
    refine ⟨vs, us, ex_t ex h1, ex_t ex h2, ?_⟩
    rw [zipP_len, r1.len, r2.len]
    omega
theorem plainL_reps {M : List Addr} {H : Hp} : ∀ {ws : List W} {vs : List V} {xs : List D}, RepWs I M H ws vs → plainL ws = some xs → Reps I H xs vs
  | [], _, _, .nil, e => by cases e; exact .nil
  | .d x :: ws, _, _, .cons r t, e => by
    rw [plainL] at e
    split at e
    · rename_i ys hy
      cases e
      exact .cons r (plainL_reps t hy)
    · cases e
  | .c _ :: _, _, _, .cons _ _, e => by rw [plainL] at e; cases e
theorem si_zip {elts : List Expr} {kk : Nat} {tpos : Pos} (t : Cok J X w F Fi k) (hb : J.sg.blt "zip" = true) (ha : PE X a (rdE (J.inf X.K) w da)) (hb' : PE X b (rdE (J.inf X.K) w db)) (hg : Gl X "zip" := by rfl) (hs : starEach [a, b] X.env = (false, eval a X.env) :: starEach [b] X.env := by rfl)
    (hpl : (backTo pos (starEach [b] X.env)).any (·.1) = false := by rfl) (hs2 : starEach [b] X.env = (false, eval b X.env) :: starEach [] X.env := by rfl) : PI X (.Tuple elts kk tpos) (.Call (.Name "zip" p) [a, b] [] pos) (rdI (J.inf X.K) w (iZip da db)) :=
  PI_imp (RZ.pi_zipA hg (t.glb _ hb) (pa_cons ha (pa_cons hb' pa_nil hs2) hs) hs hpl) fun σ H R ⟨env, S, M, sim, sl, p⟩ => by
    show rdE (J.inf X.K) w da σ H fun x H1 => rdE (J.inf X.K) w db σ H1 fun y H2 => ∃ a b xs ys, [x, y] = [.ref a, .ref b] ∧ ((SqL X.K H2 a xs ∧ SqL X.K H2 b ys ∧ R (Itz X.K a b) H2) ∨ (SqT X.K H2 a xs ∧ SqT X.K H2 b ys ∧ R (RZ.ItzT X.K a b) H2))
    refine rdI_at (R := R) (f := fun x S1 => (db env S1).bind fun y S2 => ofO (zipO x y S2) S2) sim sl p fun x v S1 M1 H1 l1 s1 sl1 r1 p1 => ?_
    refine rdI_at (R := R) (f := fun y S2 => ofO (zipO x y S2) S2) s1 sl1 p1 fun y u S2 M2 H2 l2 s2 sl2 r2 p2 => ?_
    obtain ⟨q, hq, kk⟩ := EndI.of p2 s2
    have r1 := r1.mono l2
    unfold zipO at hq
    split at hq
    · rename_i xs ys
      cases hq
      cases r1 with
      | tup h1 q1 =>
        cases r2 with
        | tup h2 q2 =>
          exact ⟨_, _, _, _, rfl, .inr ⟨ex_t mask_ex h1, ex_t mask_ex h2, kk _ (wk_zipT fun S3 M3 Hs l s3 _ => ⟨_, _, ex_t (l.ex.trans mask_ex) h1, ex_t (l.ex.trans mask_ex) h2, q1.mono l.ex, q2.mono l.ex⟩)⟩⟩
    · split at hq
      · rename_i as bs ea eb
        split at hq
        · rename_i xs ys ex ey
          cases hq
          obtain ⟨a, vs, rfl, h1, q1⟩ := lsOf_at s2 r1 ea
          obtain ⟨b, us, rfl, h2, q2⟩ := lsOf_at s2 r2 eb
          refine ⟨a, b, vs, us, rfl, .inl ⟨h1, h2, kk _ (wk_zipL fun S3 M3 Hs l s3 hg => ?_)⟩⟩
          obtain ⟨a', vs', e1, h1', q1'⟩ := lsOf_at s3 (r1.mono l) hg.1
          obtain ⟨b', us', e2, h2', q2'⟩ := lsOf_at s3 (r2.mono l) hg.2
          cases e1
          cases e2
          exact ⟨vs', us', h1', h2', plainL_reps q1' ex, plainL_reps q2' ey⟩
        · cases hq
      · cases hq
/-! reversed of a list, of a tuple -/
def revO : W → Sto → Option (List W × (Sto → Prop))
  | .d (.tup xs), _ => some ((xs.map W.d).reverse, fun _ => True)
  | x, S => match lsOf x S with
    | some a => some (a.reverse, fun S' => lsOf x S' = some a)
    | none => none
def iRev (a : DE) : DI := fun e S => (a e S).bind fun x S1 => ofO (revO x S1) S1
theorem rev_get {α : Type} {xs : List α} {i : Nat} {x : α} (h : xs.reverse[i]? = some x) : i < xs.length ∧ xs[xs.length - 1 - i]? = some x := by
  have hi : i < xs.length := by
    have := (List.getElem?_eq_some_iff.mp h).1
    simpa using this
  rw [List.getElem?_reverse hi] at h
  exact ⟨hi, h⟩
theorem wk_revL {a : Addr} {n : Nat} {xs : List W} {gd : Sto → Prop} {S : Sto} {M : List Addr} {H : Hp} (hn : xs.length = n) (h : ∀ S2 M2 Hs, Le S M H S2 M2 Hs → Sim I S2 M2 Hs → gd S2 → ∃ vs, SqL I.K Hs a vs ∧ RepWs I M2 (mask S2 M2 Hs) xs vs) : WalkI I (Itv I.K a n) xs.reverse gd S M H where
  item := fun S2 M2 Hs H2 l s ex hg i x hx => by
    obtain ⟨vs, h1, r1⟩ := h S2 M2 Hs l s hg
    obtain ⟨hi, hx⟩ := rev_get hx
    rw [hn] at hi hx
    obtain ⟨v, f1, g1⟩ := paired_get r1 hx
    refine ⟨⟨hi, vs, v, ex_l ex h1, f1⟩, fun u H3 hy => .inl ⟨hy.1, ?_⟩⟩
    have := hy.2 vs (ex_l ex h1)
    rw [f1] at this
    cases this
    exact g1
  stop := fun S2 M2 Hs H2 l s ex hg => by
    rw [List.length_reverse, hn]
    exact Nat.le_refl _
theorem wk_revT {a : Addr} {n : Nat} {xs : List W} {gd : Sto → Prop} {S : Sto} {M : List Addr} {H : Hp} (hn : xs.length = n) (h : ∀ S2 M2 Hs, Le S M H S2 M2 Hs → Sim I S2 M2 Hs → gd S2 → ∃ vs, SqT I.K Hs a vs ∧ RepWs I M2 (mask S2 M2 Hs) xs vs) : WalkI I (RT.ItvT I.K a n) xs.reverse gd S M H where
  item := fun S2 M2 Hs H2 l s ex hg i x hx => by
    obtain ⟨vs, h1, r1⟩ := h S2 M2 Hs l s hg
    obtain ⟨hi, hx⟩ := rev_get hx
    rw [hn] at hi hx
    obtain ⟨v, f1, g1⟩ := paired_get r1 hx
    refine ⟨⟨hi, vs, v, ex_t ex h1, f1⟩, fun u H3 hy => .inl ⟨hy.1, ?_⟩⟩
    have := hy.2 vs (ex_t ex h1)
    rw [f1] at this
    cases this
    exact g1
  stop := fun S2 M2 Hs H2 l s ex hg => by
    rw [List.length_reverse, hn]
    exact Nat.le_refl _
theorem si_reversed (t : Cok J X w F Fi k) (hb : J.sg.blt "reversed" = true) (ha : PE X a (rdE (J.inf X.K) w da)) (hg : Gl X "reversed" := by rfl) (hs : starEach [a] X.env = (false, eval a X.env) :: starEach [] X.env := by rfl) : PI X tg (.Call (.Name "reversed" p) [a] [] pos) (rdI (J.inf X.K) w (iRev da)) :=
  PI_imp (RT.pi_revA hg (t.glb _ hb) ha hs) fun σ H R ⟨env, S, M, sim, sl, p⟩ => by
    refine rdI_at (R := R) (f := fun x S1 => ofO (revO x S1) S1) sim sl p fun x v S1 M1 H1 l1 s1 sl1 r1 p1 => ?_
    obtain ⟨q, hq, kk⟩ := EndI.of p1 s1
    unfold revO at hq
    split at hq
    · rename_i xs
      cases hq
      cases r1 with
      | tup h1 q1 =>
        exact ⟨_, _, rfl, .inr ⟨ex_t mask_ex h1, kk _ (wk_revT (by rw [List.length_map]; exact q1.len) fun S3 M3 Hs l s3 _ => ⟨_, ex_t (l.ex.trans mask_ex) h1, reps_map (q1.mono l.ex)⟩)⟩⟩
    · split at hq
      · rename_i as ea
        cases hq
        obtain ⟨a, vs, rfl, h1, q1⟩ := lsOf_at s1 r1 ea
        refine ⟨a, vs, rfl, .inl ⟨h1, kk _ (wk_revL (Paired.length q1) fun S3 M3 Hs l s3 hg => ?_)⟩⟩
        obtain ⟨a', vs', e1, h1', q1'⟩ := lsOf_at s3 (r1.mono l) hg
        cases e1
        exact ⟨vs', h1', q1'⟩
      · cases hq
end
end Py

/-! Py12: the defs of a program; the end. -/
namespace Py
open PySem PySem.Spec PyProof.Rows L2
structure Def where
  id : Nat
  ar : Nat
  N : Nat
  body : FnTab → FnTab → DS
def noTab : FnTab := fun _ _ _ => .bad
def stepTab (ds : List Def) (F Fi : FnTab) : FnTab := fun f ws S => match ds.find? (fun d => d.id == f) with
  | some d => runDef d.N d.ar (d.body F Fi) ws S
  | none => .bad
def tabP (ds : List Def) : Nat → FnTab × FnTab
  | 0 => (noTab, noTab)
  | n + 1 => (stepTab ds (tabP ds n).1 (tabP ds n).2, (tabP ds n).1)
structure Loc where
  fa : Addr
  fd : FuncData
  ps : List Str
structure Stat (J : Jn) (K : PySem.W.Frag) (mg : Str → Option Value) (loc : Nat → Option Loc) (ar : Nat → Nat) : Prop where
  len : ∀ f l, loc f = some l → l.ps.length = ar f
  call : ∀ f x n, J.sg.nm f = some (x, n) → ∃ l, loc f = some l ∧ ar f = n ∧ mg x = some (.ref l.fa) ∧ PySem.W.keepIn K (.ref l.fa) = true ∧ Binds K l.fd l.ps []
  meth : ∀ f c m n, J.sg.mt f = some (c, m, n) → ∃ C l, loc f = some l ∧ ar f = n ∧ J.G c = some C ∧ Meth K C m l.fa ∧ Binds K l.fd l.ps []
  make : ∀ c x f n dfl, J.sg.ini c = some (x, f, n, dfl) → ∃ C l, loc f = some l ∧ ar f = n ∧ J.G c = some C ∧ mg x = some (.ref C) ∧ Mk K C l.fa ∧ ∀ dvs ∈ dfl, ∃ ds, Vals dvs ds ∧ Binds K l.fd l.ps ds
  makeK : ∀ c x f n m ks, J.sg.kw c = some (x, f, n, m, ks) → ∃ C l, loc f = some l ∧ ar f = n ∧ J.G c = some C ∧ mg x = some (.ref C) ∧ Mk K C l.fa ∧ KBn K l.fd l.ps (m + 1) ks (fun us ws => us ++ ws) (fun vs zs => vs ++ zs)
  fi : ∀ f c m n, J.sg.mt f = some (c, m, n) → ∃ (C fa : Addr), J.G c = some C ∧ Meth K C m fa ∧ PySem.W.fnIn K fa = true
  prop : ∀ f c x, J.sg.prop f = some (c, x) → ∃ C p l, loc f = some l ∧ ar f = 1 ∧ J.G c = some C ∧ PropOf K C x p l.fa ∧ Binds K l.fd l.ps []
  cls : ∀ c C, J.G c = some C → Cls K C
  nat : ∀ c C x, J.G c = some C → x ∈ J.sg.fl c → NoAttr K C x
  glb : ∀ x, J.sg.blt x = true → mg x = none
  con : ∀ x v, J.sg.con x = some v → ∃ u, mg x = some u ∧ RelV v u
  cnm : ∀ x c, J.sg.cn x = some c → ∃ C, J.G c = some C ∧ mg x = some (.ref C)
  ty : ∀ c C, J.G c = some C → PySem.W.findIn K (.ref C) "__class__" = some (some (.builtin "object.__class__")) ∧ PySem.W.specialIn K (.builtin "object.__class__") "__get__" = some (some (.builtin "getset_descriptor.__get__")) ∧ PySem.W.takesIn K (.builtin "object.__class__") = some true ∧ PySem.W.mroIn K C (.type "object") = some true
  sf : ∀ c C, J.G c = some C → PySem.W.selfFirst K C = true
  isc : ∀ c c' C C', J.G c = some C → J.G c' = some C' → PySem.W.kitOne K (.ref C) (.ref C') = some (J.sg.sub c c')
  isb : ∀ (T : String) c C, T ∈ ["NoneType", "bool", "int", "str", "tuple", "list", "dict"] → J.G c = some C → PySem.W.kitOne K (.type T) (.ref C) = some false
  ist : ∀ (T : String) c C, T ∈ ["NoneType", "bool", "int", "str", "tuple", "list", "dict"] → J.G c = some C → PySem.W.kitOne K (.ref C) (.type T) = some false
section
variable {J : Jn} {P : Program} {wd : World} {K : PySem.W.Frag} {mg : Str → Option Value} {base : Heap} {loc : Nat → Option Loc} {ar : Nat → Nat} {F Fi : FnTab} {k : Nat}
abbrev Kept (J : Jn) (P : Program) (wd : World) (K : PySem.W.Frag) (mg : Str → Option Value) (base : Heap) (loc : Nat → Option Loc) (ar : Nat → Nat) (F : FnTab) (k : Nat) : Prop :=
  ∀ f l, loc f = some l → FnOk P wd K mg base (L2.CX P wd) k l.fa l.fd l.ps (spOf (J.inf K) F f (ar f))
theorem tb_of (s : Stat J K mg loc ar) (h1 : Kept J P wd K mg base loc ar F (k + 1)) (h0 : Kept J P wd K mg base loc ar Fi k) : Tb J P wd K mg base F Fi k where
  call := fun f x n e => by
    obtain ⟨l, a, b, c, d, g⟩ := s.call f x n e
    subst b
    exact ⟨l.fa, l.fd, l.ps, c, d, h1 f l a, g⟩
  meth := fun f c m n e => by
    obtain ⟨C, l, a, b, c, d, g⟩ := s.meth f c m n e
    subst b
    exact ⟨C, l.fa, l.fd, l.ps, c, d, h1 f l a, g⟩
  make := fun c x f n dfl e => by
    obtain ⟨C, l, a, b, c, d, g, i⟩ := s.make c x f n dfl e
    subst b
    exact ⟨C, l.fa, l.fd, l.ps, c, d, g, h0 f l a, i⟩
  makeK := fun c x f n m ks e => by
    obtain ⟨C, l, a, b, c, d, g, i⟩ := s.makeK c x f n m ks e
    subst b
    exact ⟨C, l.fa, l.fd, l.ps, c, d, g, h0 f l a, i⟩
  low := fun f c m n e => by
    obtain ⟨C, l, a, b, c, d, g⟩ := s.meth f c m n e
    subst b
    exact ⟨C, l.fa, l.fd, l.ps, c, d, h0 f l a, g⟩
  prop := fun f c x e => by
    obtain ⟨C, p, l, a, b, c, d, g⟩ := s.prop f c x e
    have h := h0 f l a
    rw [b] at h
    exact ⟨C, p, l.fa, l.fd, l.ps, c, d, h, g⟩
  fi := s.fi
  cls := s.cls
  nat := s.nat
  glb := s.glb
  con := s.con
  cnm := s.cnm
  ty := s.ty
  sf := s.sf
  isc := s.isc
  isb := s.isb
  ist := s.ist
theorem kept_none (s : Stat J K mg loc ar) : Kept J P wd K mg base loc ar noTab k := fun f l e =>
  ⟨fun vs H Q E h => by rw [s.len f l e]; exact h.1, fun A outer s H args us vs Q E hr e0 hb r h => by
    obtain ⟨_, ws, S, M, _, _, p⟩ := h
    exact p.elim⟩
/-- every def keeps its promise, at every depth -/
theorem kept_all {ds : List Def} (s : Stat J K mg loc ar)
    (h : ∀ n, Tb J P wd K mg base (tabP ds n).1 (tabP ds n).2 n → Kept J P wd K mg base loc ar (tabP ds (n + 1)).1 (n + 2)) : ∀ n, Kept J P wd K mg base loc ar (tabP ds n).1 (n + 1) ∧ Kept J P wd K mg base loc ar (tabP ds n).2 n
  | 0 => ⟨kept_none s, kept_none s⟩
  | n + 1 => by
    obtain ⟨a, b⟩ := kept_all s h n
    exact ⟨h n (tb_of s a b), a⟩
theorem cok_of {N ps : List Str} {qual : Str} {sc : Scope} {fa : Addr} {cdv : Value} {A : Around} {outer : List PySem.Env} {s : Shared} {H : Hp} {E : XK} (T : Tb J P wd K mg base F Fi k) (S : FnScope N ps sc) (hr : Room (k + 1) (A.deeper (envOfC qual sc s.heap.objs.size fa cdv))) :
    Cok J (cxOf (L2.CX P wd) P wd K mg base N qual sc fa cdv A outer s H E) (fun cls dd _ H' => E cls dd H') F Fi k :=
  ⟨T, rfl, S.nd, takes_of rfl rfl rfl rfl, passes_of rfl, hr⟩
end
theorem lk_all {α : Type} {P : Nat → α → Prop} : ∀ {L : List (Nat × α)}, (∀ p ∈ L, P p.1 p.2) → ∀ f v, L.lookup f = some v → P f v
  | [], _, f, v, e => by cases e
  | (g, u) :: L, h, f, v, e => by
    rw [List.lookup_cons] at e
    cases q : f == g with
    | true =>
      rw [q] at e
      have e : u = v := by simpa using e
      have : f = g := by simpa using q
      subst this e
      exact h (f, u) List.mem_cons_self
    | false =>
      rw [q] at e
      exact lk_all (fun p m => h p (List.mem_cons_of_mem _ m)) f v e
theorem lks_all {α : Type} {P : Str → α → Prop} : ∀ {L : List (Str × α)}, (∀ p ∈ L, P p.1 p.2) → ∀ f v, L.lookup f = some v → P f v
  | [], _, f, v, e => by cases e
  | (g, u) :: L, h, f, v, e => by
    rw [List.lookup_cons] at e
    cases q : f == g with
    | true =>
      rw [q] at e
      have e : u = v := by simpa using e
      have : f = g := by simpa using q
      subst this e
      exact h (f, u) List.mem_cons_self
    | false =>
      rw [q] at e
      exact lks_all (fun p m => h p (List.mem_cons_of_mem _ m)) f v e
theorem mem_all {α : Type} [BEq α] [LawfulBEq α] {P : α → Prop} {L : List α} (h : ∀ p ∈ L, P p) : ∀ x, L.contains x = true → P x := fun x e => h x (by simpa using e)
theorem all_nil {α : Type} {P : α → Prop} : ∀ p ∈ ([] : List α), P p := fun p h => by cases h
theorem all_cons {α : Type} {P : α → Prop} {a : α} {l : List α} (h : P a) (t : ∀ p ∈ l, P p) : ∀ p ∈ a :: l, P p := fun p m => by
  rcases List.mem_cons.mp m with e | m
  · rw [e]; exact h
  · exact t p m
/-- the end of a law -/
theorem law_end {l : PySem.W.OpenLaw} {q : Program} {loose : List Str} {XP : (Str → Option Value) → Heap → Prop} {YP : World → Heap → Prop} {d : DefRec} {K : Params → PySem.W.Frag} {k f : Nat} {F : FnTab} {sg : Sg}
    (hn : l.most = some 63) (hdf : d.params.defaults = []) (hr : Room k callerA) (hY : ∀ (w : World) (h : Heap), YP w h → (K w.params).In h)
    (hF : ∀ (w : World) (mg : Str → Option Value) (fa : Addr) (h : Heap), (K w.params).In h → h.Ns mainGlobals mg → mg d.name = some (.ref fa) →
      ∃ fd : FuncData, (∀ (s : Shared) (u : Value), BindsTo s fd ⟨[u], []⟩ [("script", u)]) ∧ ∀ base : Heap, (K w.params).In base → base.Ns mainGlobals mg →
        ∃ G : Nat → Option Addr, FnOk l.prog w (K w.params) mg base (L2.CX l.prog w) k fa fd ["script"] (spOf ((Jn.mk sg G).inf (K w.params)) F f 1))
    (hlaw : ∀ ns : List Int, ns.length ≤ 63 → (∀ z ∈ ns, Builtin.Int.intBits z ≤ 1048576) → ∃ S, F f [.d (.lsx (ns.map D.int))] [] = .ok (.d (.bl true)) S) :
    PySem.W.WalkO q loose XP YP l.row.toRowW d [] (fun f vs => PySem.call f vs) := by
  refine L2.walk_ofB (n := 63) (k := k) (x := "script") (CX := fun w => L2.CX l.prog w) (sp := fun w => fun vs H Q E => ∃ (a : Addr) (ns : List Int), vs = [.ref a] ∧ SqL (K w.params) H a (ns.map V.int) ∧ ns.length ≤ 63 ∧ (∀ z ∈ ns, Builtin.Int.intBits z ≤ 1048576) ∧ (∀ v H', v = .bl true → Q v H')) hn (by decide) hdf hr hY (fun w mg fa h KX G hmg => ?_)
    (fun w H a ns hl hb _ hS => ⟨a, ns, rfl, hS, hl, hb, fun v H' e => e⟩) fun w H s e s' z => ?_
  · obtain ⟨fd, hb, hF⟩ := hF w mg fa h KX G hmg
    refine ⟨fd, hb, fun base hK hN => ?_⟩
    obtain ⟨GG, ok⟩ := hF base hK hN
    refine ok.imp fun vs H Q E ⟨a, ns, e, hS, hl, hbits, hq⟩ => ?_
    subst e
    obtain ⟨S', e⟩ := hlaw ns hl hbits
    have sim : Sim ((Jn.mk sg GG).inf (K w.params)) [] [] H := ⟨rfl, fun i j a c d e => (by simp at e), fun a m => (by cases m), fun i o a e => (by simp at e), fun i o e => (by simp at e)⟩
    have hm : mask [] [] H = H := by
      funext a
      unfold mask
      rw [if_neg]
      rintro ⟨i, o, e, _⟩
      simp at e
    refine ⟨rfl, [.d (.lsx (ns.map D.int))], [], [], sim, .cons ?_ .nil, ?_⟩
    · rw [hm]
      refine .lsx (vs := ns.map V.int) hS ?_
      clear hS hl hbits e
      induction ns with
      | nil => exact .nil
      | cons n ns ih => exact .cons (.int n) ih
    · rw [e]
      intro v H' M' l' s' r
      cases r
      exact hq _ _ rfl
  · obtain ⟨a, B, H', cls, dd, _, _, _, _, _, _, _, hh⟩ := z
    exact hh
end Py
namespace Py
open PySem PySem.Spec PyProof.Rows L2
def WF : Nat := 1000000000
theorem bt_len : bootBuiltins "len" = some (.builtin "len") := by decide +kernel
theorem bt_abs : bootBuiltins "abs" = some (.builtin "abs") := by decide +kernel
theorem bt_max : bootBuiltins "max" = some (.builtin "max") := by decide +kernel
theorem bt_min : bootBuiltins "min" = some (.builtin "min") := by decide +kernel
theorem bt_sum : bootBuiltins "sum" = some (.builtin "sum") := by decide +kernel
theorem bt_any : bootBuiltins "any" = some (.builtin "any") := by decide +kernel
theorem bt_all : bootBuiltins "all" = some (.builtin "all") := by decide +kernel
theorem bt_sorted : bootBuiltins "sorted" = some (.builtin "sorted") := by decide +kernel
theorem bt_int : bootBuiltins "int" = some (.type "int") := by decide +kernel
theorem bt_bool : bootBuiltins "bool" = some (.type "bool") := by decide +kernel
theorem bt_str : bootBuiltins "str" = some (.type "str") := by decide +kernel
theorem bt_list : bootBuiltins "list" = some (.type "list") := by decide +kernel
theorem bt_tuple : bootBuiltins "tuple" = some (.type "tuple") := by decide +kernel
theorem bt_dict : bootBuiltins "dict" = some (.type "dict") := by decide +kernel
/-- a chain of two comparisons as a test -/
theorem st_chain {X : Cx} {I : Inf} {w : WX} {a b c : Expr} {da db dc : DE} {pos : Pos} {op op' : CmpOp} {f g : W → W → Sto → R W} (ho : OpR X (compareOp op) (rdOp I f)) (ho' : OpR X (compareOp op') (rdOp I g)) (ha : PE X a (rdE I w da)) (hb : PE X b (rdE I w db)) (hc : PE X c (rdE I w dc))
    (hm : lastMarks [op, op'] [b, c] = false := by with_unfolding_all rfl) : PT X (.Compare a [op, op'] [b, c] pos) (rdT I w (dTb (dChain f g da db dc))) :=
  PT_imp (pt_chain ho ho' ha hb hc hm) fun σ H Q q => by
    obtain ⟨e, S, M, sim, sl, p⟩ := q
    have q : rdE I w (dChain f g da db dc) σ H (fun x H' => ∃ k, x = .bl k ∧ Q k H') := by
      refine ⟨e, S, M, sim, sl, ?_⟩
      have p : EndR I S M H (fun _ _ a b => a = b) Q (fun cls dd H' => w cls dd σ H') ((dChain f g da db dc e S).bind fun x S1 => match x with
        | .d (.bl b) => .ok b S1
        | _ => .bad) := p
      refine (EndR.bind (rel1 := RepW I) p).imp fun v H1 ⟨x, S1, M1, l1, s1, r1, p1⟩ => ?_
      split at p1
      · cases r1
        exact ⟨_, rfl, p1.here s1 rfl⟩
      · exact p1.elim
    obtain ⟨e, S, M, sim, sl, p⟩ := q
    refine ⟨e, S, M, sim, sl, (EndR.bind (rel1 := RepW I) p).imp fun v H1 ⟨x, S1, M1, l1, s1, r1, p1⟩ => ?_⟩
    refine ⟨e, S1, M1, s1, sl.mono l1, (EndR.bind (rel1 := RepW I) p1).imp fun u H2 ⟨y, S2, M2, l2, s2, r2, p2⟩ => ?_⟩
    refine ⟨x, y, S2, M2, s2, r1.mono l2, r2, ((EndR.bind (rel1 := RepW I) p2).ne (E' := E0)).imp fun z H3 ⟨d, S3, M3, l3, s3, r3, p3⟩ => ?_⟩
    split at p3
    · cases r3
      refine ⟨_, rfl, ?_⟩
      split at p3
      · rename_i h
        rw [if_pos h]
        refine ⟨e, S3, M3, s3, ((sl.mono l1).mono l2).mono l3, (EndR.bind (rel1 := RepW I) p3).imp fun u4 H4 ⟨z4, S4, M4, l4, s4, r4, p4⟩ => ?_⟩
        exact ⟨y, z4, S4, M4, s4, (r2.mono l3).mono l4, r4, p4.ne⟩
      · rename_i h
        rw [if_neg h]
        exact p3.here s3 (.bl _)
    · exact p3.elim
end Py

namespace Py
open PySem PySem.Spec PyProof.Rows L2
/-- variables given up ahead of a statement: what they hold is plain data from now on -/
@[simp] def sFrz (i : Nat) (s : DS) : DS := fun e S => match e[i]? with
  | some (some w) => bindS (frz w S) e fun w' S' => s (e.set i (some w')) S'
  | _ => .bad
@[simp] def dMkK (mm kk : Nat) (g : List W → Sto → R W) (a b : DA) : DE := fun e S => (a e S).bind fun ws S1 => (b e S1).bind fun us S2 => if ws.length = mm ∧ us.length = kk then g (ws ++ us) S2 else .bad
@[simp] def dProp (Fi : FnTab) (c f : Nat) (o : DE) : DE := fun e S => (o e S).bind fun x S1 => if isC c x S1 = true then (Fi f [x] S1).ne else .bad
section
variable {J : Jn} {X : Cx} {I : Inf} {w : WX} {F Fi : FnTab} {k : Nat} {a b c e o : Expr} {es rest : List Expr} {da db dc d_o : DE} {dr d2 : DA} {pos p p2 : Pos} {st : Stmt} {ds : DS} {x m : Str} {f n cc nf : Nat} {kws : List Keyword}
theorem frz_at {S S' : Sto} {M : List Addr} {H : Hp} {u u' : W} {v : V} (s : Sim I S M H) (r : RepW I M (mask S M H) u v) (e : frz u S = .ok u' S') : Sim I S' M H ∧ Le S M H S' M H ∧ RepW I M (mask S' M H) u' v := by
  cases u with
  | d x => cases e; exact ⟨s, Le.refl, r⟩
  | c i =>
    dsimp only [frz] at e
    split at e
    · rename_i ws hc
      split at e
      · rename_i xs hx
        cases e
        obtain ⟨a, ea, rfl⟩ := r
        obtain ⟨vs, ho, rw'⟩ := s.cell i _ a hc ea
        obtain ⟨s', l⟩ := s.kill hc
        refine ⟨s', l, .lst ?_ ((plainL_rep rw' hx).mono l.ex)⟩
        rw [mask_dead s hc ea]
        exact ho
      · cases e
    · cases e
theorem frz_ne (u : W) (S : Sto) : (∃ u' S', frz u S = .ok u' S') ∨ frz u S = .bad := by
  unfold frz
  repeat' split
  all_goals first
    | exact .inl ⟨_, _, rfl⟩
    | exact .inr rfl
theorem ss_frz {i : Nat} (h : PS X st (rdS I w ds)) : PS X st (rdS I w (sFrz i ds)) := PS_imp h fun D σ H ⟨env, S, M, s, sl, p⟩ => by
  unfold sFrz at p
  split at p
  · rename_i u hu
    rcases frz_ne u S with ⟨u', S', e⟩ | e
    · rw [e] at p
      obtain ⟨v, hv, r⟩ := sl.get i u hu
      obtain ⟨s', l, r'⟩ := frz_at s r e
      refine ⟨env.set i (some u'), S', M, s', ?_, EndS.up (r := ds (env.set i (some u')) S') p l⟩
      have h := (sl.mono l).set (i := i) r'
      have : σ.set i (some v) = σ := by
        refine List.ext_getElem? fun m => ?_
        rw [List.getElem?_set]
        by_cases q : i = m
        · subst q
          rw [if_pos rfl, hv, if_pos (List.getElem?_eq_some_iff.mp hv).1]
        · rw [if_neg q]
      rw [this] at h
      exact h
    · rw [e] at p
      exact p.elim
  · exact p.elim
theorem sk_nil : PK X [] (rdA I w dNil) := ⟨fun pos pins s σ H Q In ⟨e, S, M, sim, sl, p⟩ => pk_nil.run pos pins s σ H Q In (EndR.here (rel := RepWs I) p sim .nil)⟩
theorem sk_cons {nm : Option Str} {kpos : Pos} (ha : PE X a (rdE I w da)) (hr : PK X kws (rdA I w dr)) : PK X (⟨nm, a, kpos⟩ :: kws) (rdA I w (dCons da dr)) :=
  ⟨fun pos pins s σ H Q In h => (pk_cons ha hr).run pos pins s σ H Q In (by
    obtain ⟨e, S, M, sim, sl, p⟩ := h
    refine ⟨e, S, M, sim, sl, (EndR.bind (rel1 := RepW I) p).imp fun v H1 ⟨x, S1, M1, l1, s1, r1, p1⟩ => ?_⟩
    refine ⟨e, S1, M1, s1, sl.mono l1, (EndR.bind (rel1 := RepWs I) p1).imp fun u H2 ⟨y, S2, M2, l2, s2, r2, p2⟩ => ?_⟩
    exact p2.here s2 (.cons (r1.mono l2) r2))⟩
theorem sx_mkK {mm : Nat} {ks : List Str} (t : Cok J X w F Fi k) (h : J.sg.kw cc = some (x, f, n, mm, ks)) (hnf : (J.sg.fl cc).length = nf) (ha : PA X (e :: es) (rdA (J.inf X.K) w dr)) (hkw : PK X kws (rdA (J.inf X.K) w d2)) (hm1 : (e :: es).length = mm := by rfl) (hm2 : kws.length = ks.length := by rfl) (hg : Gl X x := by rfl)
    (hall : (backToKw pos (keywordEach kws X.env)).all (·.1.isSome) = true := by rfl) (hks : (backToKw pos (keywordEach kws X.env)).filterMap (·.1) = ks := by rfl)
    (hdb : (x == ("__debug__" : Str)) = false := by decide) (he : starEach (e :: es) X.env = (false, eval e X.env) :: starEach es X.env := by rfl)
    (hpl : ((backTo pos (starEach (e :: es) X.env)).any (·.1) || (backToKw pos (keywordEach kws X.env)).any (·.1.isNone)) = false := by rfl) :
    PE X (.Call (.Name x p) (e :: es) kws pos) (rdE (J.inf X.K) w (dMkK mm ks.length (mkF Fi cc f n nf) dr d2)) := by
  obtain ⟨C, fa, fd, ps, h1, h2, h3, h4, h5⟩ := t.makeK cc x f n mm ks h
  refine PE_imp (pe_makeK (E := WE w) h3 h4 t.room hg h2 h5 (fun σ => passAt t.tk σ) ha hkw hall hks hdb he hpl) fun σ H Q q => ?_
  obtain ⟨e, S, M, s, sl, p⟩ := q
  refine ⟨e, S, M, s, sl, (EndR.bind (rel1 := RepWs (J.inf X.K)) p).imp fun vs H1 ⟨ws, S1, M1, l1, s1, r1, p1⟩ => ?_⟩
  refine ⟨e, S1, M1, s1, sl.mono l1, (EndR.bind (rel1 := RepWs (J.inf X.K)) p1).imp fun zs H2 ⟨us, S2, M2, l2, s2, r2, p2⟩ => ?_⟩
  split at p2
  · rename_i hl
    refine ⟨(Paired.length r1).symm.trans hl.1, (Paired.length r2).symm.trans hl.2, fun y dy ny nd ne => mkF_end hnf s2 (RepWs.app (RepWs.mono l2 r1) r2) h1 p2 ny nd ne⟩
  · exact p2.elim
theorem sx_prop (t : Cok J X w F Fi k) (h : J.sg.prop f = some (cc, m)) (ho : PE X o (rdE (J.inf X.K) w d_o)) (hab : attributeBase o m X.env (eval o X.env) = eval o X.env := by rfl) : PE X (.Attribute o m pos) (rdE (J.inf X.K) w (dProp Fi cc f d_o)) := by
  obtain ⟨C, pr, g, fd, ps, h1, h2, h3, h4⟩ := t.prop f cc m h
  refine PE_imp (pe_prop (dvs := []) (E := E0) ho (t.cls cc C h1) h2 h3 t.room h4 .nil passL hab) fun σ H Q q => rd_one (f := fun _ x S1 => if isC cc x S1 = true then (Fi f [x] S1).ne else .bad) q fun y v e S M H s sl r p => ?_
  split at p
  · rename_i hy
    obtain ⟨b, C', dx, vs, rfl, g, hb⟩ := recv_at s r hy
    have : C' = C := by
      have g' : J.G cc = some C' := g
      rw [h1] at g'
      exact (Option.some.inj g').symm
    subst this
    exact ⟨b, dx, _, rfl, hb, rfl, [y], S, M, s, .cons r .nil, p.ne⟩
  · exact p.elim
end
end Py

/-! Py13: more of the language: enumerate. -/
namespace Py
open PySem PySem.Spec PyProof.Rows L2
/-! ### enumerate of a list or tuple -/
set_option maxHeartbeats 1000000 in
theorem enum_meets {v : Value} {o : Obj} {H : Heap → Prop} (B : Begins v o H) :
    Meets (Builtin.«enumerate.__new__» ⟨[.type "enumerate", v], []⟩) (fun _ R s => H s.heap ∧
      R (.ok (.ret (.ref (s.heap.push o).objs.size))) { s with heap := (s.heap.push o).push { cls := .type "enumerate", data := .fields #[.none, .bool false, .ref s.heap.objs.size, rawInt 0, .none, .none] } }) :=
  .of_wp fun pr wd A R s h => by
    obtain ⟨hp, g, d, tk, os⟩ := s
    obtain ⟨h1, h⟩ := h
    have hsub := sub_enumerate
    have its : ∀ {A' : Around} {E Q : Value → Shared → Prop}, Q (.ref hp.objs.size) ⟨hp.push o, g, d, tk, os⟩ → wpAny (model pr wd) A' (pyIter v) Q E ⟨hp, g, d, tk, os⟩ := fun q => B.iter _ _ _ _ ⟨hp, g, d, tk, os⟩ _ h1 q
    wp_walk using its
    refine wpAny_stack_any fun _ => wpAny_pure ?_; split
    · rename_i c _ _ _ _ _
      cases (c == Value.type "enumerate") <;> (wp_walk using its; exact ⟨_, rfl, h⟩)
    · wp_walk using its
      exact ⟨_, rfl, h⟩
theorem enum_call {prog : Program} {w : World} {A : Around} {E : Value → Shared → Prop} {s : Shared} {v : Value} {o : Obj} {H : Heap → Prop} {Q : Value → Shared → Prop} (B : Begins v o H) (h1 : H s.heap)
    (h : ∀ h', IsEnum h' (s.heap.objs.size + 1) s.heap.objs.size 0 .none → h'.get? s.heap.objs.size = some o → (∀ b o, s.heap.get? b = some o → h'.get? b = some o) → Q (.ref (s.heap.objs.size + 1)) { s with heap := h' }) :
    wpAny (model prog w) A (call (.type "enumerate") [v]) Q E s := by
  refine callType_new F.called_enumerate (by decide) (F.typeCall_enumerate_1 _) (F.newCall_enumerate_1 _) (fun x => F.args_object_init_2 x _) F.entry_enumerate_new (enum_meets B) ⟨h1, ?_⟩
  have hz : (s.heap.push o).objs.size = s.heap.objs.size + 1 := Heap.size_push ..
  show _ ∧ _
  rw [hz]
  have he : IsEnum ((s.heap.push o).push { cls := .type "enumerate", data := .fields #[.none, .bool false, .ref s.heap.objs.size, rawInt 0, .none, .none] }) (s.heap.objs.size + 1) s.heap.objs.size 0 .none := by
    have q := Heap.get?_push_size (s.heap.push o) (o := { cls := .type "enumerate", data := .fields #[.none, .bool false, .ref s.heap.objs.size, rawInt 0, .none, .none] }) rfl
    rwa [hz] at q
  exact ⟨⟨_, he, rfl⟩, h _ he (Heap.get?_push_of_some _ (Heap.get?_push_size _ B.free)) fun b o x => Heap.get?_push_of_some _ (Heap.get?_push_of_some _ x)⟩
/-- the tuple at a, each item in a new pair -/
def IteT (K : PySem.W.Frag) (a : Addr) : It :=
  ⟨fun i H => ∃ (xs : List V) (x : V), SqT K H a xs ∧ xs[i]? = some x, fun i H v H' => ∃ T x, v = .ref T ∧ H T = none ∧ H' = upd H T (.tup [.int (i : Nat), x]) ∧ ∀ xs, SqT K H a xs → xs[i]? = some x, fun i H => ∃ xs : List V, SqT K H a xs ∧ xs.length = i⟩
theorem turn_enumT {P : Program} {w : World} {K : PySem.W.Frag} {elts : List Expr} {kk : Nat} {tpos : Pos} {a e it : Addr} (ea : e ≠ a) (ia : it ≠ a) :
    Turn P w K (.Tuple elts kk tpos) (IteT K a) [e, it] e (fun i h => (∃ old, IsEnum h e it ((i : Nat) : Int) old) ∧ h.IsTupleIter it a i ∧ e ≠ it) where
  mem := by simp
  obj := fun i h st b hb => by
    obtain ⟨⟨old, he⟩, ⟨o, ho, hc, hd⟩, _⟩ := st
    rcases (by simpa using hb : b = e ∨ b = it) with rfl | rfl
    · exact ⟨_, he, fun v q => nomatch q⟩
    · exact ⟨o, ho, fun v q => by rw [hd] at q; cases q⟩
  keep := fun i h h' st k => let ⟨⟨old, he⟩, hi, hne⟩ := st; ⟨⟨old, k e (by simp) _ he⟩, hi.at fun o q => k it (by simp) o q, hne⟩
  item := by
    intro X hP hw hK hc i pins s σ H E In hf st hg
    subst hP hw hK
    obtain ⟨⟨old, he⟩, hit, hne⟩ := st
    obtain ⟨xs, x, hq, hx⟩ := hg
    obtain ⟨its, rv, p, hz⟩ := In.tuple hq
    obtain ⟨u, hu, ru⟩ := rv.get hx
    have hel : e < s.heap.objs.size := Heap.lt_size he
    have hil : it < s.heap.objs.size := by obtain ⟨_, q, _⟩ := hit; exact Heap.lt_size q
    have hlt : i < its.toArray.size := by
      have := (List.getElem?_eq_some_iff.mp hu).1
      simpa using this
    refine wpAny_pyNext_enum_itemC (Draws.tuple (A := X.A.in1) (In.ok.hd hc) it a (Ne.symm ia) its.toArray) he ⟨hit, p⟩ hlt hne (by simp [hne, ea]) fun y h' tk hy ho hit' hT hsz hk => ?_
    have : y = u := by
      have hy : its.toArray[i]? = some y := hy
      rw [List.getElem?_toArray, hu] at hy
      exact (Option.some.inj hy).symm
    subst this
    obtain ⟨hit', _⟩ := hit'
    refine ⟨_, rfl, wpAny_letOwnedTupleGo_enum (s := { s with heap := h', toks := tk + 1 }) ho fun h'' he' sb => ?_⟩
    have hT2 : h''.get? s.heap.objs.size = some { cls := .type "tuple", data := .seq #[.int i tk, y] } := (sb.2 _ (Nat.ne_of_gt hel)).trans hT
    have nw : ObjOk X.prog X.w (upd H s.heap.objs.size (.tup [.int (i : Nat), x])) h'' s.heap.objs.size (.tup [.int (i : Nat), x]) :=
      ⟨by show 2 ≤ sizeLine; decide, [.int i tk, y], .cons ⟨_, rfl⟩ (.cons ru .nil), ⟨_, hT2, rfl, _, rfl⟩⟩
    have I1 : Inv X pins σ (upd H s.heap.objs.size (.tup [.int (i : Nat), x])) { s with heap := h'', toks := tk + 1 } :=
      In.turnedNew (ch := [e, it]) (fun b ob hb q => (sb.2 b (fun z => hb (by simp [z]))).trans (hk b ob (fun z => hb (by simp [z])) (fun z => hb (by simp [z])) q)) hf (Nat.le_refl _) nw
    refine ⟨.ref s.heap.objs.size, _, I1, rfl, ⟨_, x, rfl, In.hok.fresh (Nat.le_refl _), rfl, fun ys hy => by rw [In.tuple_inj hy hq]; exact hx⟩, ⟨⟨y, ?_⟩, hit'.at fun o q => (sb.2 it (Ne.symm hne)).trans q, hne⟩, fun b hb => ?_⟩
    · rw [show ((i + 1 : Nat) : Int) = (i : Int) + 1 by omega]; exact he'
    · have hb' : b < s.heap.objs.size := by
        rcases (by simpa using hb : b = e ∨ b = it) with rfl | rfl
        · exact hel
        · exact hil
      rw [upd_ne (Nat.ne_of_lt hb')]
      exact (hf b hb).1
  done := by
    intro X hP hw hK hc i pins s σ H E In hf st hg
    subst hP hw hK
    obtain ⟨⟨old, he⟩, hit, hne⟩ := st
    obtain ⟨xs, hq, hx⟩ := hg
    obtain ⟨its, rv, p, hz⟩ := In.tuple hq
    obtain ⟨f0, f1, f2, f3, f4, f5⟩ := hf it (by simp)
    have hl := rv.length
    have hi : i = its.toArray.size := by simp; omega
    subst hi
    exact wpAny_pyNext_enum_endD (Draws.tuple (A := X.A.in1) (In.ok.hd hc) it a (Ne.symm ia) its.toArray) he ⟨hit, p⟩ fun h' eb => ⟨rfl, In.turned (t' := s.toks) (fun b o hb q => eb b o hb q) f0 f1 f3 f4 f5⟩
  self := fun A i s Q E st h => let ⟨⟨_, he⟩, _⟩ := st; wpAny_pyIter_enum he h
def iEnumA (K : PySem.W.Frag) (ta : TA) : TI := fun σ H R => ta σ H fun vs H1 => ∃ a xs, vs = [.ref a] ∧ ((SqL K H1 a xs ∧ R (Ite K a) H1) ∨ (SqT K H1 a xs ∧ R (IteT K a) H1))
theorem pi_enumA {X : Cx} {e : Expr} {ta : TA} {p pos tpos : Pos} {elts : List Expr} {kk : Nat} (hg : Gl X "enumerate") (hm : X.mg "enumerate" = none) (ha : PA X [e] ta) (hs : starEach [e] X.env = [(false, eval e X.env)] := by rfl) :
    PI X (.Tuple elts kk tpos) (.Call (.Name "enumerate" p) [e] [] pos) (iEnumA X.K ta) := by
  refine ⟨fun pins s σ H R In h => ?_⟩
  refine Call_ (ld_blt In hg hm boot_enumerate (PyProof.Rows.callWith_type1 (thn (ha.run pos pins s σ H _ In h) fun us s1 ⟨vs, H1, I1, r1, q1⟩ => ?_) hs rfl))
  obtain ⟨a, xs, rfl, q1⟩ := q1
  cases r1 with
  | cons r rr =>
    cases rr
    cases r
    have fp : ∀ b ∈ [s1.heap.objs.size + 1, s1.heap.objs.size], FpOk X pins H1 b := fun b hb => by
      have hle : s1.heap.objs.size ≤ b := by
        rcases (by simpa using hb : b = s1.heap.objs.size + 1 ∨ b = s1.heap.objs.size) with rfl | rfl
        · exact Nat.le_add_right _ _
        · exact Nat.le_refl _
      exact I1.fpOk hle (I1.hok.fresh hle)
    rcases q1 with ⟨hq, q⟩ | ⟨hq, q⟩
    · obtain ⟨its, rv, p', hz⟩ := I1.list hq
      refine enum_call (begins_list a its.toArray) p'.isList fun h' he hit hk => wpAny_pyIter_enum he ?_
      exact ⟨_, [s1.heap.objs.size + 1, s1.heap.objs.size], _, _, H1, rfl, I1.kept (t' := s1.toks) hk, turn_enum a (s1.heap.objs.size + 1) s1.heap.objs.size, ⟨⟨.none, he⟩, ⟨_, hit, rfl, rfl⟩, Nat.succ_ne_self _⟩, fp, q⟩
    · obtain ⟨its, rv, p', hz⟩ := I1.tuple hq
      have hlt : a < s1.heap.objs.size := by obtain ⟨o, ho, _⟩ := p'; exact Heap.lt_size ho
      refine enum_call (begins_tuple a its.toArray) p' fun h' he hit hk => wpAny_pyIter_enum he ?_
      exact ⟨_, [s1.heap.objs.size + 1, s1.heap.objs.size], _, _, H1, rfl, I1.kept (t' := s1.toks) hk, turn_enumT (a := a) (e := s1.heap.objs.size + 1) (it := s1.heap.objs.size) (Nat.ne_of_gt (Nat.lt_succ_of_lt hlt)) (Nat.ne_of_gt hlt), ⟨⟨.none, he⟩, ⟨_, hit, rfl, rfl⟩, Nat.succ_ne_self _⟩, fp, q⟩
/-- the items with their places -/
def enumP (xs : List D) : List W := xs.zipIdx.map fun p => W.d (.tup [.int (p.2 : Nat), p.1])
def enumO : W → Sto → Option (List W × (Sto → Prop))
  | .d (.tup xs), _ => some (enumP xs, fun _ => True)
  | x, S => match lsOf x S with
    | some ws => match plainL ws with
      | some xs => some (enumP xs, fun S' => lsOf x S' = some ws)
      | none => none
    | none => none
def iEnum (a : DE) : DI := fun e S => (a e S).bind fun x S1 => ofO (enumO x S1) S1
theorem enumP_len {xs : List D} : (enumP xs).length = xs.length := by unfold enumP; simp
theorem enumP_get {xs : List D} {i : Nat} {x : W} (h : (enumP xs)[i]? = some x) : ∃ d, xs[i]? = some d ∧ x = .d (.tup [.int (i : Nat), d]) := by
  unfold enumP at h
  rw [List.getElem?_map, List.getElem?_zipIdx] at h
  cases q : xs[i]? with
  | none => rw [q] at h; cases h
  | some d =>
    rw [q] at h
    simp at h
    exact ⟨d, rfl, h.symm⟩
section
variable {J : Jn} {X : Cx} {I : Inf} {w : WX} {F Fi : FnTab} {k : Nat} {a b c e o tg iter elt : Expr} {da db dc d_o el : DE} {pos p p2 : Pos}
theorem wk_enumL {a : Addr} {xs : List D} {gd : Sto → Prop} {S : Sto} {M : List Addr} {H : Hp} (h : ∀ S2 M2 Hs, Le S M H S2 M2 Hs → Sim I S2 M2 Hs → gd S2 → ∃ vs, SqL I.K Hs a vs ∧ Reps I (mask S2 M2 Hs) xs vs) : WalkI I (Ite I.K a) (enumP xs) gd S M H where
  item := fun S2 M2 Hs H2 l s ex hg i x hx => by
    obtain ⟨vs, h1, r1⟩ := h S2 M2 Hs l s hg
    obtain ⟨d, e1, rfl⟩ := enumP_get hx
    obtain ⟨v, f1, g1⟩ := reps_get r1 e1
    refine ⟨⟨vs, v, ex_l ex h1, f1⟩, fun w H3 hy => .inr ?_⟩
    obtain ⟨T, v', rfl, nT, rfl, k1⟩ := hy
    have q := k1 vs (ex_l ex h1)
    rw [f1] at q
    cases q
    exact ⟨T, [.int (i : Nat), v], [.int (i : Nat), d], nT, rfl, rfl, rfl, .cons (.int _) (.cons g1 .nil)⟩
  stop := fun S2 M2 Hs H2 l s ex hg => by
    obtain ⟨vs, h1, r1⟩ := h S2 M2 Hs l s hg
    exact ⟨vs, ex_l ex h1, by rw [enumP_len, r1.len]; exact Nat.le_refl _⟩
theorem wk_enumT {a : Addr} {xs : List D} {gd : Sto → Prop} {S : Sto} {M : List Addr} {H : Hp} (h : ∀ S2 M2 Hs, Le S M H S2 M2 Hs → Sim I S2 M2 Hs → gd S2 → ∃ vs, SqT I.K Hs a vs ∧ Reps I (mask S2 M2 Hs) xs vs) : WalkI I (IteT I.K a) (enumP xs) gd S M H where
  item := fun S2 M2 Hs H2 l s ex hg i x hx => by
    obtain ⟨vs, h1, r1⟩ := h S2 M2 Hs l s hg
    obtain ⟨d, e1, rfl⟩ := enumP_get hx
    obtain ⟨v, f1, g1⟩ := reps_get r1 e1
    refine ⟨⟨vs, v, ex_t ex h1, f1⟩, fun w H3 hy => .inr ?_⟩
    obtain ⟨T, v', rfl, nT, rfl, k1⟩ := hy
    have q := k1 vs (ex_t ex h1)
    rw [f1] at q
    cases q
    exact ⟨T, [.int (i : Nat), v], [.int (i : Nat), d], nT, rfl, rfl, rfl, .cons (.int _) (.cons g1 .nil)⟩
  stop := fun S2 M2 Hs H2 l s ex hg => by
    obtain ⟨vs, h1, r1⟩ := h S2 M2 Hs l s hg
    exact ⟨vs, ex_t ex h1, by rw [enumP_len, r1.len]⟩
theorem si_enumerate {elts : List Expr} {kk : Nat} {tpos : Pos} (t : Cok J X w F Fi k) (hb : J.sg.blt "enumerate" = true) (ha : PE X a (rdE (J.inf X.K) w da)) (hg : Gl X "enumerate" := by rfl) (hs : starEach [a] X.env = [(false, eval a X.env)] := by rfl)
    (hs2 : starEach [a] X.env = (false, eval a X.env) :: starEach [] X.env := by rfl) : PI X (.Tuple elts kk tpos) (.Call (.Name "enumerate" p) [a] [] pos) (rdI (J.inf X.K) w (iEnum da)) :=
  PI_imp (pi_enumA hg (t.glb _ hb) (pa_cons ha pa_nil hs2) hs) fun σ H R ⟨env, S, M, sim, sl, p⟩ => by
    refine rdI_at (R := R) (f := fun x S1 => ofO (enumO x S1) S1) sim sl p fun x v S1 M1 H1 l1 s1 sl1 r1 p1 => ?_
    obtain ⟨q, hq, kk⟩ := EndI.of p1 s1
    unfold enumO at hq
    split at hq
    · cases hq
      cases r1 with
      | tup h1 q1 =>
        exact ⟨_, _, rfl, .inr ⟨ex_t mask_ex h1, kk _ (wk_enumT fun S3 M3 Hs l s3 _ => ⟨_, ex_t (l.ex.trans mask_ex) h1, q1.mono l.ex⟩)⟩⟩
    · split at hq
      · rename_i ws ea
        split at hq
        · rename_i xs hx
          cases hq
          obtain ⟨b, vs, rfl, h1, q1⟩ := lsOf_at s1 r1 ea
          refine ⟨b, vs, rfl, .inl ⟨h1, kk _ (wk_enumL fun S3 M3 Hs l s3 hg => ?_)⟩⟩
          obtain ⟨b', vs', e1, h1', q1'⟩ := lsOf_at s3 (r1.mono l) hg
          cases e1
          exact ⟨vs', h1', plainL_reps q1' hx⟩
        · cases hq
      · cases hq
end
end Py
/-! ### lists that hold cells: given up, numbered anew -/
namespace Py
open PySem PySem.Spec PyProof.Rows L2
/-- each item given up -/
def frzs : List W → Sto → Option (List D × Sto)
  | [], S => some ([], S)
  | .d x :: r, S => match frzs r S with
    | some (xs, S') => some (x :: xs, S')
    | none => none
  | .c j :: r, S => match S[j]? with
    | some (.lst us) => match plainL us with
      | some ys => match frzs r (S.set j .dead) with
        | some (xs, S') => some (.lst ys :: xs, S')
        | none => none
      | none => none
    | _ => none
/-- a list of lists given up -/
def frz2 : W → Sto → R W
  | .d x, S => .ok (.d x) S
  | .c i, S => match S[i]? with
    | some (.lst ws) => match frzs ws S with
      | some (xs, S') => match S'[i]? with
        | some (.lst _) => .ok (.d (.lst xs)) (S'.set i .dead)
        | _ => .bad
      | none => .bad
    | _ => .bad
def sFrz2 (i : Nat) (s : DS) : DS := fun e S => match e[i]? with
  | some (some w) => bindS (frz2 w S) e fun w' S' => s (e.set i (some w')) S'
  | _ => .bad
/-- the cell is numbered anew, as the last one -/
def mv : W → Sto → R W
  | .d x, S => .ok (.d x) S
  | .c i, S => match S[i]? with
    | some .dead => .bad
    | some o => .ok (.c S.length) (S.set i .dead ++ [o])
    | none => .bad
def sMv (i : Nat) (s : DS) : DS := fun e S => match e[i]? with
  | some (some w) => bindS (mv w S) e fun w' S' => s (e.set i (some w')) S'
  | _ => .bad
section
variable {J : Jn} {X : Cx} {I : Inf} {w : WX} {F Fi : FnTab} {k : Nat} {st : Stmt} {ds : DS}
theorem frzs_at {H : Hp} {M : List Addr} : ∀ {ws : List W} {vs : List V} {S S' : Sto} {xs : List D}, Sim I S M H → RepWs I M (mask S M H) ws vs → frzs ws S = some (xs, S') → Sim I S' M H ∧ Le S M H S' M H ∧ Reps I (mask S' M H) xs vs
  | [], _, S, S', xs, s, .nil, e => by
    cases e
    exact ⟨s, Le.refl, .nil⟩
  | .d x :: r, _, S, S', xs, s, .cons h t, e => by
    unfold frzs at e
    split at e
    · rename_i ys S2 q
      cases e
      obtain ⟨a, b, c⟩ := frzs_at s t q
      exact ⟨a, b, .cons (Rep.mono b.ex h) c⟩
    · cases e
  | .c j :: r, _, S, S', xs, s, .cons h t, e => by
    unfold frzs at e
    split at e
    · rename_i us hc
      split at e
      · rename_i ys hy
        split at e
        · rename_i zs S2 q
          cases e
          obtain ⟨a, ea, rfl⟩ := h
          obtain ⟨vs, ho, rw'⟩ := s.cell j _ a hc ea
          obtain ⟨s', l⟩ := s.kill hc
          obtain ⟨a1, b1, c1⟩ := frzs_at s' (RepWs.mono l t) q
          have h1 : Rep I (mask (S.set j .dead) M H) (.lst ys) (.ref a) := .lst (by rw [mask_dead s hc ea]; exact ho) ((plainL_rep rw' hy).mono l.ex)
          exact ⟨a1, l.trans b1, .cons (h1.mono b1.ex) c1⟩
        · cases e
      · cases e
    · cases e
theorem frz2_at {S S' : Sto} {M : List Addr} {H : Hp} {u u' : W} {v : V} (s : Sim I S M H) (r : RepW I M (mask S M H) u v) (e : frz2 u S = .ok u' S') : ∃ M', Sim I S' M' H ∧ Le S M H S' M' H ∧ RepW I M' (mask S' M' H) u' v := by
  refine ⟨M, ?_⟩
  cases u with
  | d x => cases e; exact ⟨s, Le.refl, r⟩
  | c i =>
    unfold frz2 at e
    dsimp only at e
    split at e
    · rename_i ws hc
      split at e
      · rename_i xs S1 hx
        split at e
        · rename_i h1
          cases e
          obtain ⟨a, ea, rfl⟩ := r
          obtain ⟨vs, ho, rw'⟩ := s.cell i _ a hc ea
          obtain ⟨s1, l1, r1⟩ := frzs_at s rw' hx
          obtain ⟨s2, l2⟩ := s1.kill h1
          refine ⟨s2, l1.trans l2, .lst ?_ (r1.mono l2.ex)⟩
          rw [mask_dead s1 h1 ea]
          exact ho
        · cases e
      · cases e
    · cases e
theorem mv_at {S S' : Sto} {M : List Addr} {H : Hp} {u u' : W} {v : V} (s : Sim I S M H) (r : RepW I M (mask S M H) u v) (e : mv u S = .ok u' S') : ∃ M', Sim I S' M' H ∧ Le S M H S' M' H ∧ RepW I M' (mask S' M' H) u' v := by
  cases u with
  | d x => cases e; exact ⟨M, s, Le.refl, r⟩
  | c i =>
    unfold mv at e
    dsimp only at e
    split at e
    · cases e
    · rename_i o hne hc
      cases e
      obtain ⟨a, ea, rfl⟩ := r
      obtain ⟨s', l⟩ := s.move hc ea hne
      refine ⟨M ++ [a], s', l, a, ?_, rfl⟩
      rw [← s.len, List.getElem?_append_right (Nat.le_refl _), Nat.sub_self]
      rfl
    · cases e
/-- a slot's value put into another form ahead of a statement -/
theorem ss_form {f : W → Sto → R W} {i : Nat} (hne : ∀ u S, (∃ u' S', f u S = .ok u' S') ∨ f u S = .bad) (hf : ∀ {S S' : Sto} {M : List Addr} {H : Hp} {u u' : W} {v : V}, Sim I S M H → RepW I M (mask S M H) u v → f u S = .ok u' S' → ∃ M', Sim I S' M' H ∧ Le S M H S' M' H ∧ RepW I M' (mask S' M' H) u' v)
    (h : PS X st (rdS I w ds)) : PS X st (rdS I w fun e S => match e[i]? with
      | some (some w) => bindS (f w S) e fun w' S' => ds (e.set i (some w')) S'
      | _ => .bad) := PS_imp h fun D σ H ⟨env, S, M, s, sl, p⟩ => by
  dsimp only at p
  split at p
  · rename_i u hu
    rcases hne u S with ⟨u', S', e⟩ | e
    · rw [e] at p
      obtain ⟨v, hv, r⟩ := sl.get i u hu
      obtain ⟨M', s', l, r'⟩ := hf s r e
      refine ⟨env.set i (some u'), S', M', s', ?_, EndS.up (r := ds (env.set i (some u')) S') p l⟩
      have h := (sl.mono l).set (i := i) r'
      have : σ.set i (some v) = σ := by
        refine List.ext_getElem? fun m => ?_
        rw [List.getElem?_set]
        by_cases q : i = m
        · subst q
          rw [if_pos rfl, hv, if_pos (List.getElem?_eq_some_iff.mp hv).1]
        · rw [if_neg q]
      rwa [this] at h
    · rw [e] at p
      exact p.elim
  · exact p.elim
theorem frz2_ne (u : W) (S : Sto) : (∃ u' S', frz2 u S = .ok u' S') ∨ frz2 u S = .bad := by
  unfold frz2
  repeat' split
  all_goals first
    | exact .inl ⟨_, _, rfl⟩
    | exact .inr rfl
theorem mv_ne (u : W) (S : Sto) : (∃ u' S', mv u S = .ok u' S') ∨ mv u S = .bad := by
  unfold mv
  repeat' split
  all_goals first
    | exact .inl ⟨_, _, rfl⟩
    | exact .inr rfl
theorem ss_frz2 {i : Nat} (h : PS X st (rdS I w ds)) : PS X st (rdS I w (sFrz2 i ds)) := ss_form frz2_ne frz2_at h
theorem ss_mv {i : Nat} (h : PS X st (rdS I w ds)) : PS X st (rdS I w (sMv i ds)) := ss_form mv_ne mv_at h
end
end Py
/-! ### in, not in; methods of built-in types -/
namespace Py
open PySem PySem.Spec PyProof.Rows L2
/-- is the text one sign -/
def sign1 (x : Str) : Option Nat := match x.cps.toList with
  | [c] => some c
  | _ => none
def inS (x z : Str) : Option Bool := (sign1 x).map fun c => decide (c ∈ z.cps.toList)
def flatD : D → Bool
  | .non => true | .bl _ => true | .int _ => true | .str _ => true
  | _ => false
def eqD0 : D → D → Bool
  | .non, .non => true
  | .bl a, .bl b => a == b
  | .bl a, .int b => (if a then 1 else 0) == b
  | .int a, .bl b => a == (if b then 1 else 0)
  | .int a, .int b => a == b
  | .str a, .str b => a == b
  | _, _ => false
def inT (neg : Bool) (x : D) (ys : List D) (S : Sto) : R W := if flatD x = true ∧ ys.all flatD = true then .ok (.d (.bl (if neg then !(ys.any fun y => eqD0 y x) else ys.any fun y => eqD0 y x))) S else .bad
def inL (neg : Bool) (x y : W) (S : Sto) : R W := match wpy x S, wpy y S with
  | some d, some (.list ds) => if shp d = true ∧ shp (.list ds) = true then .ok (.d (.bl (if neg then !ds.any fun z => PyData.eqv z d else ds.any fun z => PyData.eqv z d))) S else .bad
  | _, _ => .bad
def opIn : W → W → Sto → R W
  | .d (.str x), .d (.str z), S => match inS x z with
    | some b => .ok (.d (.bl b)) S
    | none => .bad
  | .d x, .d (.tup ys), S => inT false x ys S
  | x, y, S => inL false x y S
def opNotIn : W → W → Sto → R W
  | .d (.str x), .d (.str z), S => match inS x z with
    | some b => .ok (.d (.bl (!b))) S
    | none => .bad
  | .d x, .d (.tup ys), S => inT true x ys S
  | x, y, S => inL true x y S
section
variable {J : Jn} {X : Cx} {I : Inf} {w : WX} {F Fi : FnTab} {k : Nat} {a b c e o : Expr} {es rest : List Expr} {da db dc d_o : DE} {dr : DA} {pos p p2 : Pos}
theorem sign1_at {x : Str} {c : Nat} (h : sign1 x = some c) : x = ⟨#[c]⟩ := by
  unfold sign1 at h
  split at h
  · rename_i d hd
    cases h
    obtain ⟨⟨l⟩⟩ := x
    have : l = [c] := hd
    rw [this]
  · cases h
theorem flat_rep {H : Hp} {x : D} {v : V} (r : Rep I H x v) (h : flatD x = true) : flatV v = true := by
  cases r <;> first | rfl | cases h
theorem flats_rep {H : Hp} : ∀ {xs : List D} {vs : List V}, Reps I H xs vs → xs.all flatD = true → vs.all flatV = true
  | [], _, .nil, _ => rfl
  | x :: xs, _, .cons r t, h => by
    rw [List.all_cons, Bool.and_eq_true] at h
    rw [List.all_cons, flat_rep r h.1, flats_rep t h.2]
    rfl
theorem eqD0_rep {H : Hp} {x y : D} {v u : V} (rx : Rep I H x v) (ry : Rep I H y u) (h : flatD x = true) (h' : flatD y = true) : eqD0 x y = eqV v u := by
  cases rx <;> first | cases h | skip
  all_goals (cases ry <;> first | rfl | cases h')
theorem any_rep {H : Hp} {x : D} {v : V} (rx : Rep I H x v) (hx : flatD x = true) : ∀ {ys : List D} {us : List V}, Reps I H ys us → ys.all flatD = true → (ys.any fun y => eqD0 y x) = inV v us
  | [], _, .nil, _ => rfl
  | y :: ys, _, .cons r t, h => by
    rw [List.all_cons, Bool.and_eq_true] at h
    unfold inV
    rw [List.any_cons, List.any_cons, eqD0_rep r rx h.1 hx, any_rep rx hx t h.2]
    rfl
theorem o_in (hu : X.A.units + 65 < cLine) : OpR X (compareOp .In) (rdOp ⟨X.K, I.G, I.fl⟩ opIn) := by
  intro pins s σ H v u ov ou Q In rv ru hh
  obtain ⟨x, y, S, M, sim, rx, ry, p⟩ := hh
  unfold opIn at p
  split at p
  · split at p
    · rename_i _ _ x z _ b hb
      cases rx
      cases ry
      unfold inS at hb
      cases hs : sign1 x with
      | none => rw [hs] at hb; cases hb
      | some c =>
        rw [hs] at hb
        cases hb
        exact op_in_sign pins s σ H _ _ ov ou Q In rv ru ⟨c, z, by rw [sign1_at hs], rfl, p.here sim (.bl _)⟩
    · exact p.elim
  · unfold inT at p
    split at p
    · rename_i h
      cases ry with
      | tup h1 r1 =>
        refine op_in_seq pins s σ H _ _ ov ou Q In rv ru ⟨_, _, rfl, .inr (ex_t mask_ex h1), flat_rep (I := ⟨X.K, I.G, I.fl⟩) rx h.1, flats_rep r1 h.2, ?_⟩
        rw [← any_rep (I := ⟨X.K, I.G, I.fl⟩) rx h.1 r1 h.2]
        exact p.here sim (.bl _)
    · exact p.elim
  · unfold inL at p
    split at p
    · rename_i d ds hd he
      split at p
      · rename_i h
        exact op_inD hu pins s σ H _ _ ov ou Q In rv ru ⟨d, ds, wpy_dp sim rx hd, wpy_dp sim ry he, h.1, h.2, p.here sim (.bl _)⟩
      · exact p.elim
    · exact p.elim
theorem o_notin (hu : X.A.units + 65 < cLine) : OpR X (compareOp .NotIn) (rdOp ⟨X.K, I.G, I.fl⟩ opNotIn) := by
  intro pins s σ H v u ov ou Q In rv ru hh
  obtain ⟨x, y, S, M, sim, rx, ry, p⟩ := hh
  unfold opNotIn at p
  split at p
  · split at p
    · rename_i _ _ x z _ b hb
      cases rx
      cases ry
      unfold inS at hb
      cases hs : sign1 x with
      | none => rw [hs] at hb; cases hb
      | some c =>
        rw [hs] at hb
        cases hb
        exact op_notIn_sign pins s σ H _ _ ov ou Q In rv ru ⟨c, z, by rw [sign1_at hs], rfl, p.here sim (.bl _)⟩
    · exact p.elim
  · unfold inT at p
    split at p
    · rename_i h
      cases ry with
      | tup h1 r1 =>
        refine op_notIn_seq pins s σ H _ _ ov ou Q In rv ru ⟨_, _, rfl, .inr (ex_t mask_ex h1), flat_rep (I := ⟨X.K, I.G, I.fl⟩) rx h.1, flats_rep r1 h.2, ?_⟩
        rw [← any_rep (I := ⟨X.K, I.G, I.fl⟩) rx h.1 r1 h.2]
        exact p.here sim (.bl _)
    · exact p.elim
  · unfold inL at p
    split at p
    · rename_i d ds hd he
      split at p
      · rename_i h
        exact op_notInD hu pins s σ H _ _ ov ou Q In rv ru ⟨d, ds, wpy_dp sim rx hd, wpy_dp sim ry he, h.1, h.2, p.here sim (.bl _)⟩
      · exact p.elim
    · exact p.elim
/-! methods of texts and lists -/
def tyS (T : String) : W → Sto → Bool
  | .d (.str _), _ => T == "str"
  | .d (.lst _), _ => T == "list"
  | .d (.lsx _), _ => T == "list"
  | .c i, S => match S[i]? with
    | some (.lst _) => T == "list"
    | _ => false
  | _, _ => false
def dBM (T : String) (g : W → List W → Sto → R W) (a : DE) (r : DA) : DE := fun e S => (a e S).bind fun x S1 => if tyS T x S1 = true then ((r e S1).bind fun ws S2 => (g x ws S2).ne) else .bad
def rdMt (I : Inf) (g : W → List W → Sto → R W) : V → List V → Hp → VK → Prop := fun x xs H Q => ∃ (u : W) (us : List W) (S : Sto) (M : List Addr), Sim I S M H ∧ RepW I M (mask S M H) u x ∧ RepWs I M (mask S M H) us xs ∧ EndR I S M H (RepW I) Q E0 (g u us S)
theorem tyS_at {T : String} {S : Sto} {M : List Addr} {H : Hp} {x : W} {v : V} (s : Sim I S M H) (r : RepW I M (mask S M H) x v) (h : tyS T x S = true) : tyV I.K T v H := by
  unfold tyS at h
  split at h
  · cases r; exact beq_iff_eq.mp h
  · cases r with
    | lst h1 q => exact .inl ⟨beq_iff_eq.mp h, _, .inl (.inl (mask_ex _ _ h1))⟩
  · cases r with
    | lsx h1 q => exact .inl ⟨beq_iff_eq.mp h, _, ex_l mask_ex h1⟩
  · split at h
    · obtain ⟨a, ea, rfl⟩ := r
      obtain ⟨vs, ho, q⟩ := s.cell _ _ a (by assumption) ea
      exact .inl ⟨beq_iff_eq.mp h, _, .inl (.inl ho)⟩
    · cases h
  · cases h
theorem sx_bm {T id : String} {name : Str} {apos cpos : Pos} {g : W → List W → Sto → R W} (pa : PlainAttrs T) (slot : Slot T name id) (hty : typeOf (.builtin id) = pure (.type "method_descriptor")) (hm : MtR X id (rdMt ⟨X.K, I.G, I.fl⟩ g)) (ho : PE X o (rdE ⟨X.K, I.G, I.fl⟩ w d_o)) (ha : PA X (e :: es) (rdA ⟨X.K, I.G, I.fl⟩ w dr))
    (hbase : attributeBase o name X.env (eval o X.env) = eval o X.env := by rfl)
    (hfew : ((backTo cpos (starEach (e :: es) X.env)).all (fun x => !x.1) && (backToKw cpos (keywordEach [] X.env)).all (fun x => x.1.isSome)
      && decide ((e :: es).length + ([] : List Keyword).length + (if ([] : List Keyword).isEmpty then 0 else 1) < 30)) = true := by rfl)
    (hline : (apos.endLine == cpos.line) = true := by rfl) (hs : starEach (e :: es) X.env = (false, eval e X.env) :: starEach es X.env := by rfl) (hplain : (backTo cpos (starEach es X.env)).any (·.1) = false := by rfl) :
    PE X (.Call (.Attribute o name apos) (e :: es) [] cpos) (rdE ⟨X.K, I.G, I.fl⟩ w (dBM T g d_o dr)) :=
  PE_imp (pe_bm pa slot hty hm ho ha hbase hfew hline hs hplain) fun σ H Q q => by
    obtain ⟨e, S, M, s, sl, p⟩ := q
    refine ⟨e, S, M, s, sl, (EndR.bind (rel1 := RepW ⟨X.K, I.G, I.fl⟩) p).imp fun v1 H1 ⟨x, S1, M1, l1, s1, r1, p1⟩ => ?_⟩
    split at p1
    · rename_i hx
      refine ⟨tyS_at s1 r1 hx, e, S1, M1, s1, sl.mono l1, (EndR.bind (rel1 := RepWs ⟨X.K, I.G, I.fl⟩) p1).imp fun v2 H2 ⟨y, S2, M2, l2, s2, r2, p2⟩ => ?_⟩
      exact ⟨x, y, S2, M2, s2, r1.mono l2, r2, p2.ne⟩
    · exact p1.elim
theorem sx_bm0 {T id : String} {name : Str} {apos cpos : Pos} {g : W → List W → Sto → R W} (pa : PlainAttrs T) (slot : Slot T name id) (hty : typeOf (.builtin id) = pure (.type "method_descriptor")) (hm : MtR X id (rdMt ⟨X.K, I.G, I.fl⟩ g)) (ho : PE X o (rdE ⟨X.K, I.G, I.fl⟩ w d_o))
    (hbase : attributeBase o name X.env (eval o X.env) = eval o X.env := by rfl) (hline : (apos.endLine == cpos.line) = true := by rfl) : PE X (.Call (.Attribute o name apos) [] [] cpos) (rdE ⟨X.K, I.G, I.fl⟩ w (dBM T g d_o dNil)) :=
  PE_imp (pe_bm0 pa slot hty hm ho hbase hline) fun σ H Q q => by
    obtain ⟨e, S, M, s, sl, p⟩ := q
    refine ⟨e, S, M, s, sl, (EndR.bind (rel1 := RepW ⟨X.K, I.G, I.fl⟩) p).imp fun v1 H1 ⟨x, S1, M1, l1, s1, r1, p1⟩ => ?_⟩
    split at p1
    · rename_i hx
      have p1 : EndR ⟨X.K, I.G, I.fl⟩ S1 M1 H1 (RepW ⟨X.K, I.G, I.fl⟩) Q (fun cls dd H' => w cls dd σ H') ((g x [] S1).ne) := p1
      exact ⟨tyS_at s1 r1 hx, x, [], S1, M1, s1, r1, .nil, p1.ne⟩
    · exact p1.elim
theorem two_of {M : List Addr} {H : Hp} {x : W} {vs : List V} (r : RepWs I M H [x] vs) : ∃ v, vs = [v] ∧ RepW I M H x v := by
  cases r with
  | cons r t => cases t; exact ⟨_, rfl, r⟩
def gSIndex : W → List W → Sto → R W
  | .d (.str a), [.d (.str b)], S => match Builtin.Str.occurrences a b 0 a.length 1 with
    | i :: _ => .ok (.d (.int (i : Nat))) S
    | [] => .bad
  | _, _, _ => .bad
theorem m_sindex : MtR X "str.index" (rdMt ⟨X.K, I.G, I.fl⟩ gSIndex) := by
  intro pins s σ H x xs v us Q In rx rs ⟨u, ws, S, M, sim, ru, rw', p⟩
  unfold gSIndex at p
  split at p
  · split at p
    · rename_i i rest hi
      obtain ⟨v1, rfl, r1⟩ := two_of rw'
      cases ru
      cases r1
      exact mt_sindex pins s σ H _ _ v us Q In rx rs ⟨_, _, i, rest, rfl, rfl, hi, p.here sim (.int _)⟩
    · exact p.elim
  · exact p.elim
def gSFind : W → List W → Sto → R W
  | .d (.str a), [.d (.str b)], S => .ok (.d (.int (Txt.find a b))) S
  | _, _, _ => .bad
theorem m_sfind : MtR X "str.find" (rdMt ⟨X.K, I.G, I.fl⟩ gSFind) := by
  intro pins s σ H x xs v us Q In rx rs ⟨u, ws, S, M, sim, ru, rw', p⟩
  unfold gSFind at p
  split at p
  · obtain ⟨v1, rfl, r1⟩ := two_of rw'
    cases ru
    cases r1
    exact mt_find pins s σ H _ _ v us Q In rx rs ⟨_, _, rfl, rfl, p.here sim (.int _)⟩
  · exact p.elim
def strsL : List W → Option (List Str)
  | [] => some []
  | .d (.str x) :: r => (strsL r).map (x :: ·)
  | _ => none
theorem strsL_map : ∀ {ns : List Str}, strsL ((ns.map D.str).map W.d) = some ns
  | [] => rfl
  | n :: ns => by
    rw [List.map_cons, List.map_cons, strsL, strsL_map]
    rfl
theorem strsL_rep {M : List Addr} {H : Hp} : ∀ {ws : List W} {vs : List V} {ns : List Str}, RepWs I M H ws vs → strsL ws = some ns → vs = ns.map V.str
  | [], _, _, .nil, e => by cases e; rfl
  | .d (.str i) :: ws, _, ns, .cons r t, e => by
    rw [strsL] at e
    cases q : strsL ws with
    | none => rw [q] at e; cases e
    | some ms =>
      rw [q] at e
      cases e
      cases r
      rw [strsL_rep t q]
      rfl
def gSJoin : W → List W → Sto → R W
  | .d (.str a), [x], S => match (seqOf x S).bind strsL with
    | some ys => if (ys.map (·.length)).sum + ys.length * a.length ≤ 16777216 then .ok (.d (.str (Txt.join a ys))) S else .bad
    | none => .bad
  | _, _, _ => .bad
theorem m_sjoin : MtR X "str.join" (rdMt ⟨X.K, I.G, I.fl⟩ gSJoin) := by
  intro pins s σ H x xs v us Q In rx rs ⟨u, ws, S, M, sim, ru, rw', p⟩
  unfold gSJoin at p
  split at p
  · split at p
    · rename_i ys hys
      split at p
      · rename_i hz
        obtain ⟨v1, rfl, r1⟩ := two_of rw'
        cases ru
        cases q : seqOf _ S with
        | none => rw [q] at hys; cases hys
        | some zs =>
          rw [q] at hys
          obtain ⟨a, vs, rfl, h, t⟩ := seqOf_at sim r1 q
          rw [strsL_rep (I := ⟨X.K, I.G, I.fl⟩) t hys] at h
          exact mt_join pins s σ H _ _ v us Q In rx rs ⟨_, a, ys, rfl, rfl, h, hz, p.here sim (.str _)⟩
      · exact p.elim
    · exact p.elim
  · exact p.elim
/-- the cell at i gets other items -/
def putL (i : Nat) (ws : List W) (S : Sto) : Option Sto := if (∀ w ∈ ws, w.lowB i = true) then some (S.set i (.lst ws)) else none
theorem putL_at {S S' : Sto} {M : List Addr} {H : Hp} {i : Nat} {ws ws0 : List W} {vs : List V} {a : Addr} (s : Sim I S M H) (hc : S[i]? = some (.lst ws0)) (ea : M[i]? = some a) (r : RepWs I M (mask S M H) ws vs) (e : putL i ws S = some S') :
    Sim I S' M (upd H a (.lst vs)) ∧ Le S M H S' M (upd H a (.lst vs)) := by
  unfold putL at e
  split at e
  · rename_i h
    cases e
    exact s.write hc ea (by intro z; cases z) (by intro z; cases z) (fun u m => W.lowB_of (h u m)) ⟨_, rfl, r⟩
  · cases e
/-- the items of an own list -/
def lstW : W → Sto → Option (List W)
  | .d (.lst xs), _ => some (xs.map W.d)
  | .c i, S => match S[i]? with
    | some (.lst ws) => some ws
    | _ => none
  | _, _ => none
theorem lstW_at {S : Sto} {M : List Addr} {H : Hp} {x : W} {v : V} {ws : List W} (sim : Sim I S M H) (r : RepW I M (mask S M H) x v) (e : lstW x S = some ws) : ∃ a vs, v = .ref a ∧ H a = some (.lst vs) ∧ RepWs I M (mask S M H) ws vs := by
  unfold lstW at e
  split at e
  · cases e
    cases r with
    | lst h q => exact ⟨_, _, rfl, mask_ex _ _ h, reps_map q⟩
  · split at e
    · rename_i hc
      cases e
      obtain ⟨a, ea, rfl⟩ := r
      obtain ⟨vs, ho, q⟩ := sim.cell _ _ a hc ea
      exact ⟨a, vs, rfl, ho, q⟩
    · cases e
  · cases e
def ofP (o : Option Sto) : R W := match o with
  | some S' => .ok (.d .non) S'
  | none => .bad
def gExtend : W → List W → Sto → R W
  | .c i, [y], S => match S[i]?, lstW y S with
    | some (.lst ws), some zs => if ws.length + zs.length ≤ sizeLine then ofP (putL i (ws ++ zs) S) else .bad
    | _, _ => .bad
  | _, _, _ => .bad
theorem m_extend : MtR X "list.extend" (rdMt ⟨X.K, I.G, I.fl⟩ gExtend) := by
  intro pins s σ H x xs v us Q In rx rs ⟨u, ws, S, M, sim, ru, rw', p⟩
  unfold gExtend at p
  split at p
  · split at p
    · rename_i ws zs hc hz
      split at p
      · rename_i hl
        unfold ofP at p
        split at p
        · rename_i S' hp
          obtain ⟨v1, rfl, r1⟩ := two_of rw'
          obtain ⟨a, ea, rfl⟩ := ru
          obtain ⟨vs, ho, q⟩ := sim.cell _ _ a hc ea
          obtain ⟨b, us, rfl, hb, q2⟩ := lstW_at sim r1 hz
          obtain ⟨s', l'⟩ := putL_at sim hc ea (RepWs.app q q2) hp
          exact mt_extend pins s σ H _ _ v _ Q In rx rs ⟨a, b, vs, us, rfl, rfl, ho, hb, by rw [← Paired.length q, ← Paired.length q2]; exact hl, p .non _ M l' s' .non⟩
        · exact p.elim
      · exact p.elim
    · exact p.elim
  · exact p.elim
def gPop : W → List W → Sto → R W
  | .c i, [], S => match S[i]? with
    | some (.lst ws) => match ws[ws.length - 1]?, putL i ws.dropLast S with
      | some y, some S' => .ok y S'
      | _, _ => .bad
    | _ => .bad
  | .c i, [.d (.int j)], S => match S[i]? with
    | some (.lst ws) => if -(2 ^ 63) ≤ j ∧ j < 2 ^ 63 then (match seqIndex? j ws.length with
      | some m => match ws[m]?, putL i (ws.eraseIdx m) S with
        | some y, some S' => .ok y S'
        | _, _ => .bad
      | none => .bad) else .bad
    | _ => .bad
  | _, _, _ => .bad
theorem dropLast_paired {α β : Type} {R : α → β → Prop} {xs : List α} {ys : List β} (h : Paired R xs ys) : Paired R xs.dropLast ys.dropLast := by
  induction h with
  | nil => exact .nil
  | cons r t ih =>
    cases t with
    | nil => exact .nil
    | cons r2 t2 => exact .cons r ih
theorem erase_paired {α β : Type} {R : α → β → Prop} {xs : List α} {ys : List β} (h : Paired R xs ys) : ∀ n, Paired R (xs.eraseIdx n) (ys.eraseIdx n) := by
  induction h with
  | nil => intro n; exact .nil
  | cons r t ih =>
    intro n
    cases n with
    | zero => exact t
    | succ n => exact .cons r (ih n)
theorem m_pop : MtR X "list.pop" (rdMt ⟨X.K, I.G, I.fl⟩ gPop) := by
  intro pins s σ H x xs v us Q In rx rs ⟨u, ws, S, M, sim, ru, rw', p⟩
  unfold gPop at p
  split at p
  · split at p
    · rename_i ws hc
      split at p
      · rename_i y S' hy hp
        cases rw'
        obtain ⟨a, ea, rfl⟩ := ru
        obtain ⟨vs, ho, q⟩ := sim.cell _ _ a hc ea
        obtain ⟨vy, hv, ry⟩ := paired_get q hy
        obtain ⟨s', l'⟩ := putL_at sim hc ea (dropLast_paired q) hp
        exact mt_pop pins s σ H _ _ v _ Q In rx rs ⟨a, vs, vy, rfl, rfl, ho, by rw [← Paired.length q]; exact hv, p _ _ M l' s' (ry.mono l')⟩
      · exact p.elim
    · exact p.elim
  · split at p
    · rename_i ws hc
      split at p
      · rename_i hj
        split at p
        · rename_i m hm
          split at p
          · rename_i y S' hy hp
            obtain ⟨v1, rfl, r1⟩ := two_of rw'
            cases r1
            obtain ⟨a, ea, rfl⟩ := ru
            obtain ⟨vs, ho, q⟩ := sim.cell _ _ a hc ea
            obtain ⟨vy, hv, ry⟩ := paired_get q hy
            obtain ⟨s', l'⟩ := putL_at sim hc ea (erase_paired q m) hp
            exact mt_popAt pins s σ H _ _ v _ Q In rx rs ⟨a, vs, _, m, vy, rfl, rfl, ho, hj.1, hj.2, by rw [← Paired.length q]; exact hm, hv, p _ _ M l' s' (ry.mono l')⟩
          · exact p.elim
        · exact p.elim
      · exact p.elim
    · exact p.elim
  · exact p.elim
def gInsert : W → List W → Sto → R W
  | .c i, [.d (.int j), y], S => match S[i]? with
    | some (.lst ws) => if ws.length < sizeLine ∧ 0 ≤ j ∧ j < 2 ^ 63 then ofP (putL i (ws.take j.toNat ++ [y] ++ ws.drop j.toNat) S) else .bad
    | _ => .bad
  | _, _, _ => .bad
theorem take_paired {α β : Type} {R : α → β → Prop} {xs : List α} {ys : List β} (h : Paired R xs ys) : ∀ n, Paired R (xs.take n) (ys.take n) ∧ Paired R (xs.drop n) (ys.drop n) := by
  induction h with
  | nil => intro n; rw [List.take_nil, List.take_nil, List.drop_nil, List.drop_nil]; exact ⟨.nil, .nil⟩
  | cons r t ih =>
    intro n
    cases n with
    | zero => exact ⟨.nil, .cons r t⟩
    | succ n => exact ⟨.cons r (ih n).1, (ih n).2⟩
theorem m_insert : MtR X "list.insert" (rdMt ⟨X.K, I.G, I.fl⟩ gInsert) := by
  intro pins s σ H x xs v us Q In rx rs ⟨u, ws, S, M, sim, ru, rw', p⟩
  unfold gInsert at p
  split at p
  · split at p
    · rename_i ws hc
      split at p
      · rename_i hj
        unfold ofP at p
        split at p
        · rename_i S' hp
          cases rw' with
          | cons r1 rr =>
            obtain ⟨v2, rfl, r2⟩ := two_of rr
            cases r1
            obtain ⟨a, ea, rfl⟩ := ru
            obtain ⟨vs, ho, q⟩ := sim.cell _ _ a hc ea
            obtain ⟨s', l'⟩ := putL_at sim hc ea (RepWs.app (RepWs.app (take_paired q _).1 (.cons r2 .nil)) (take_paired q _).2) hp
            exact mt_insert pins s σ H _ _ v _ Q In rx rs ⟨a, vs, _, v2, rfl, rfl, ho, by rw [← Paired.length q]; exact hj.1, hj.2.1, hj.2.2, p .non _ M l' s' .non⟩
        · exact p.elim
      · exact p.elim
    · exact p.elim
  · exact p.elim
/-! bool(x) -/
def gBool : List W → Sto → R W
  | [.d (.int i)], S => .ok (.d (.bl (i != 0))) S
  | [.d (.bl b)], S => .ok (.d (.bl b)) S
  | _, _ => .bad
theorem c_bool : CallR X (.type "bool") (rdCall ⟨X.K, I.G, I.fl⟩ gBool) := by
  intro pins s σ H vs us Q In r hh
  obtain ⟨ws, S, M, sim, rw', p⟩ := hh
  unfold gBool at p
  split at p
  · obtain ⟨v, rfl, rv⟩ := rw'.one
    cases rv
    exact call_bool1 pins s σ H _ us Q In r (.inl ⟨_, rfl, p.here sim (.bl _)⟩)
  · obtain ⟨v, rfl, rv⟩ := rw'.one
    cases rv
    exact call_bool1 pins s σ H _ us Q In r (.inr ⟨_, rfl, p.here sim (.bl _)⟩)
  · exact p.elim
/-! own == -/
def okT (c : Nat) : Option Ty → Bool
  | some (.cls c2) => c2 == c
  | some _ => true
  | none => false
def eqO (F : FnTab) (c f : Nat) (g : W → W → Sto → R W) : W → W → Sto → R W
  | .d (.obj c1 xs), y, S => if c1 = c ∧ okT c (tyOf y S) = true then F f [.d (.obj c1 xs), y] S else .bad
  | x, y, S => g x y S
theorem tyX_looks {X : Cx} {pins : List (Addr × Obj)} {σ : L2.St} {H : Hp} {s : Shared} {x : V} {u t : Value} (In : Inv X pins σ H s) (ty : TyX X.K H x t) (rx : RelV x u) : PySem.W.Looks (model X.prog X.w) s.heap (typeOf u) t := by
  obtain ⟨P, Z, p, _⟩ := kit_of In rx ty
  exact Z.ty _ _ In.kIn p
theorem mro_own (T : String) (C : Addr) (h : T ∈ ["NoneType", "bool", "int", "str", "tuple", "list", "dict"]) (K : PySem.W.Frag) : PySem.W.notFirst K C (.type T) = true := by
  have e : PySem.W.subIn K (.type T) (.ref C) = some false := by
    simp only [List.mem_cons, List.not_mem_nil, or_false] at h
    rcases h with rfl | rfl | rfl | rfl | rfl | rfl | rfl <;> rfl
  unfold PySem.W.notFirst
  rw [e]
  rfl
theorem o_ownEq {J : Jn} {X : Cx} {w : WX} {F Fi : FnTab} {k : Nat} (t : Cok J X w F Fi k) {g : W → W → Sto → R W} {f c : Nat} (h : J.sg.mt f = some (c, ("__eq__" : Str), 2)) (hg : OpR X (compareOp .Eq) (rdOp (J.inf X.K) g)) : OpR X (compareOp .Eq) (rdOp (J.inf X.K) (eqO F c f g)) := by
  intro pins s σ H v u ov ou Q In rv ru hh
  obtain ⟨x, y, S, M, sim, rx, ry, p⟩ := hh
  unfold eqO at p
  split at p
  · split at p
    · rename_i hc
      obtain ⟨rfl, hok⟩ := hc
      obtain ⟨C, fa, fd, ps, h1, h2, h3, h4⟩ := t.meth f _ _ 2 h
      have rx0 := rx
      cases rx with
      | obj g1 e1 l1 q1 =>
      have eC := h1.symm.trans g1
      cases eC
      cases rv
      obtain ⟨od, J1⟩ := obj_look (I := J.inf X.K) In (mask_ex _ _ e1)
      obtain ⟨mm, hF⟩ := In.fr
      have run : wpAny (model X.prog X.w) X.A (call (.ref fa) [.ref _, ou]) (PySem.W.CmpBack (EP X pins σ Q)) X.xe s :=
        wpAny_mono (run_m (m := "__eq__") (c := 0) t h3 h4 In (.cons rel_ref (.cons ru .nil)) rfl sim (.cons rx0 (.cons ry .nil)) p) (fun _ _ z => cmpBack_of z) fun _ _ z => z
      show wpAny _ _ (richCompare .Eq _ ou) _ _ _
      unfold okT at hok
      split at hok
      · rename_i c2 hy
        have hok := beq_iff_eq.mp hok
        subst hok
        rcases ty_at t sim ry hy with ⟨hn, ty⟩ | ⟨c3, C3, e3, g3, ty⟩
        · exact absurd rfl hn
        · cases e3
          have eC := h1.symm.trans g3
          cases eC
          exact PySem.W.cmp_K (op := .Eq) (tb := .ref C) t.room.units0 hF In.ok.mod.kin J1 (tyX_looks In ty ru) (by unfold PySem.W.notFirst; rw [Bool.or_eq_true]; exact .inl (beq_self_eq_true _)) h2.at_ h2.fn run
      · rename_i y0 hne hy
        rcases ty_at t sim ry hy with ⟨hn, ty⟩ | ⟨c3, C3, e3, g3, ty⟩
        · exact PySem.W.cmp_K (op := .Eq) (tb := .type _) t.room.units0 hF In.ok.mod.kin J1 (tyX_looks In ty ru) (mro_own _ _ (nm_mem _ hn) _) h2.at_ h2.fn run
        · exact absurd e3 (hne c3)
      · cases hok
    · exact p.elim
  · exact hg pins s σ H v u ov ou Q In rv ru ⟨x, y, S, M, sim, rx, ry, p⟩
end
end Py
/-! ### comprehensions of two clauses -/
namespace Py
open PySem PySem.Spec PyProof.Rows L2
open Classical in
noncomputable def compL2 (g : GT) (ta : DT) (d1 : DI) (g1 : GT) (t1 : DT) (el : DE) (k1 : List Nat) (gd : Sto → Prop) (env : Env) : List W → Sto → R (List W)
  | [], S => if gd S then .ok [] S else .bad
  | x :: xs, S => if gd S then (match g x env with
    | none => .bad
    | some e1 => (ta e1 S).ne.bind fun c S1 => if c = true then ((d1 e1 S1).ne.bind fun p S2 => (compL g1 t1 el p.2 (uns k1 e1) p.1 S2).bind fun ys S3 => (compL2 g ta d1 g1 t1 el k1 gd env xs S3).bind fun zs S4 => .ok (ys ++ zs) S4) else compL2 g ta d1 g1 t1 el k1 gd env xs S1) else .bad
noncomputable def dComp2 (own : List Nat) (g : GT) (i : DI) (t : DT) (d1 : DI) (g1 : GT) (t1 : DT) (el : DE) (k1 : List Nat) : DE := fun e S => (i e S).bind fun p S1 => (compL2 g t d1 g1 t1 el k1 p.2 (uns own e) p.1 S1).bind fun ws S2 => if ws.length ≤ 16777216 then (match plainL ws with
  | some xs => .ok (.d (.lst xs)) S2
  | none => .bad) else .bad
section
variable {J : Jn} {X : Cx} {I : Inf} {w : WX} {F Fi : FnTab} {k : Nat} {a b c e o tg iter tg1 iter1 elt : Expr} {el : DE} {ta t1 : DT} {pos p p2 : Pos} {di d1 : DI} {g g1 : GT} {vs vs1 : List Nat} {scope : Scope} {own : List (Str × Nat)} {ifs ifs1 : List Expr}
/-- an iterator made while the list is aside -/
theorem PI_aside {t : TI} (h : PI X tg iter t) : PI X tg iter (fun σ H R => ∃ (D : Addr) (xs : List V), H D = some (.lst xs) ∧ t σ (era H D) fun J1 H' => H' D = none → R J1 (upd H' D (.lst xs))) := by
  refine ⟨fun pins s σ H R In ⟨D, xs, hD, q⟩ => ?_⟩
  obtain ⟨h1, h2, its, n, r, z, I1⟩ := inv_aside In hD
  refine wpAny_mono (h.run _ s σ _ _ I1 q) (fun v s1 h3 => wpAny_mono h3 (fun itv s2 h4 => ?_) fun _ _ x => x) fun _ _ x => x
  obtain ⟨it, fp, tn, J1, H', e, I2, T, t0, ff, q2⟩ := h4
  obtain ⟨n2, I3⟩ := inv_back h1 h2 r z I2
  refine ⟨it, fp, tn, J1, _, e, I3, T, t0, fun b hb => ?_, q2 n2⟩
  obtain ⟨f0, f1, f2, f3, f4, f5⟩ := ff b hb
  refine ⟨?_, f1, f2, f3, f4, fun p hp => f5 p ?_⟩
  · have : D ≠ b := f5 (D, { cls := .type "list", data := .seq its.toArray n }) (by simp)
    rw [upd_ne (Ne.symm this)]
    exact f0
  · rcases List.mem_append.mp hp with h | h
    · exact List.mem_append_left _ h
    · exact List.mem_append_right _ (List.mem_append_left _ h)
theorem bind_assoc' {α β γ : Type} {r : R α} {f : α → Sto → R β} {h : β → Sto → R γ} : (r.bind f).bind h = r.bind fun a S => (f a S).bind h := by cases r <;> rfl
/-- the walk of the inner clause -/
theorem inner_walk {J1 : It} {ys : List W} {gd : Sto → Prop} {S0 : Sto} {M0 : List Addr} {H0 : Hp} (wk : WalkI I J1 ys gd S0 M0 H0) (s0 : Sim I S0 M0 H0) {σ : L2.St} {env : Env} (sl : Slots I M0 (mask S0 M0 H0) env σ) {D : Addr} (nD : H0 D = none) {acc : List V} {accW : List W} (ra : RepWs I M0 (mask S0 M0 H0) accW acc)
    {cont : List W → Sto → R W} (hcl : ∀ ws S, cont ws S ≠ .bad → ws.length ≤ 16777216) {Q : VK} {E : XK} {Nx : Hp → Prop}
    (hnx : ∀ (S' : Sto) (M' : List Addr) (Hs : Hp) (accW' : List W) (acc' : List V), Le S0 M0 H0 S' M' Hs → Sim I S' M' Hs → Hs D = none → RepWs I M' (mask S' M' Hs) accW' acc' → EndR I S' M' Hs (RepW I) Q E (cont accW' S') → Nx (upd Hs D (.lst acc')))
    (p : EndR I S0 M0 H0 (RepW I) Q E ((compL g1 t1 el gd (uns vs1 env) ys S0).bind fun zs S3 => cont (accW ++ zs) S3)) :
    ∃ W1 : Nat → Nat → Hp → Prop, (∃ m, W1 0 m (upd H0 D (.lst acc))) ∧ ∀ j k H, W1 j k H →
      (J1.stop j H ∧ Nx H) ∨ (J1.go j H ∧ ∃ Nx1 : Hp → Prop, (∀ H', Nx1 H' → ∃ k', k' < k ∧ W1 (j + 1) k' H') ∧ ∀ x H', J1.yld j H x H' → aG (rdG I g1 vs1) x (wipe σ vs1) H' fun σ3 H5 => wipe σ3 vs1 = wipe σ vs1 ∧ aT (rdT I w0 t1) σ3 H5 fun b H6 =>
        if b = true then aE (rdE I w0 el) σ3 H6 fun y H7 => ∃ acc, H7 D = some (.lst acc) ∧ acc.length < sizeLine ∧ Nx1 (upd H7 D (.lst (acc ++ [y]))) else Nx1 H6) := by
  refine ⟨fun i m H' => ∃ (S' : Sto) (M' : List Addr) (Hs : Hp) (accW : List W) (acc : List V), H' = upd Hs D (.lst acc) ∧ Hs D = none ∧ m = ys.length - i ∧ i ≤ ys.length ∧ Le S0 M0 H0 S' M' Hs ∧ Sim I S' M' Hs ∧ RepWs I M' (mask S' M' Hs) accW acc ∧
      EndR I S' M' Hs (RepW I) Q E ((compL g1 t1 el gd (uns vs1 env) (ys.drop i) S').bind fun zs S3 => cont (accW ++ zs) S3),
    ⟨_, S0, M0, H0, accW, acc, rfl, nD, rfl, Nat.zero_le _, Le.refl, s0, ra, p⟩, fun i m H' ⟨S', M', Hs, accW, acc, eH, nDs, hm, hi, l', s', ra, p'⟩ => ?_⟩
  subst eH
  have exs : Ex Hs (upd Hs D (.lst acc)) := fun a o e => by rw [upd_ne (ne_of_none e nDs)]; exact e
  rcases Nat.lt_or_ge i ys.length with hlt | hge
  · right
    rw [List.drop_eq_getElem_cons hlt] at p'
    have hbad : compL g1 t1 el gd (uns vs1 env) (ys[i] :: ys.drop (i + 1)) S' ≠ .bad := fun z => by rw [z] at p'; exact p'
    have e0 := compL.eq_def g1 t1 el gd (uns vs1 env) (ys[i] :: ys.drop (i + 1)) S'
    dsimp only at e0
    have hgd : gd S' := by
      by_cases z : gd S'
      · exact z
      · rw [if_neg z] at e0
        exact absurd e0 hbad
    rw [if_pos hgd] at e0
    rw [e0] at p'
    clear e0 hbad
    obtain ⟨hgo, hy⟩ := wk.item S' M' Hs _ l' s' exs hgd i _ (List.getElem?_eq_getElem hlt)
    refine ⟨hgo, fun H2 => ∃ (S' : Sto) (M' : List Addr) (Hs : Hp) (accW : List W) (acc : List V), H2 = upd Hs D (.lst acc) ∧ Hs D = none ∧ Le S0 M0 H0 S' M' Hs ∧ Sim I S' M' Hs ∧ RepWs I M' (mask S' M' Hs) accW acc ∧
      EndR I S' M' Hs (RepW I) Q E ((compL g1 t1 el gd (uns vs1 env) (ys.drop (i + 1)) S').bind fun zs S3 => cont (accW ++ zs) S3),
      fun H2 ⟨S', M', Hs, accW, acc, a1, a2, a3, a4, a5, a6⟩ => ⟨_, by omega, S', M', Hs, accW, acc, a1, a2, rfl, hlt, a3, a4, a5, a6⟩, fun v H3 hyl => ?_⟩
    obtain ⟨Hs3, e3, nD3, s3, l3, r3⟩ : ∃ Hs3, H3 = upd Hs3 D (.lst acc) ∧ Hs3 D = none ∧ Sim I S' M' Hs3 ∧ Le S' M' Hs S' M' Hs3 ∧ RepW I M' (mask S' M' Hs3) ys[i] v := by
      rcases hy v H3 hyl with ⟨rfl, r3⟩ | ⟨T, us, zs, nT, rfl, rfl, ex, rs⟩
      · exact ⟨Hs, rfl, nDs, s', Le.refl, r3⟩
      · have TD : T ≠ D := fun z => by rw [z, upd_same] at nT; cases nT
        have nT' : Hs T = none := by rw [upd_ne TD] at nT; exact nT
        obtain ⟨a1, a2⟩ := s'.new (o := .tup us) nT'
        refine ⟨upd Hs T (.tup us), ?_, by rw [upd_ne (Ne.symm TD)]; exact nDs, a1, a2, ?_⟩
        · funext a
          by_cases z1 : a = T
          · rw [z1, upd_same, upd_ne TD, upd_same]
          · rw [upd_ne z1]
            by_cases z2 : a = D
            · rw [z2, upd_same, upd_same]
            · rw [upd_ne z2, upd_ne z2, upd_ne z1]
        · rw [ex]
          exact .tup (.inl (.inl (mask_new s' nT'))) (rs.mono a2.ex)
    subst e3
    refine ⟨D, acc, upd_same, ?_⟩
    rw [era_upd nD3]
    have slb : Slots I M' (mask S' M' Hs3) (uns vs1 env) (wipe σ vs1) := uns_wipe ((sl.mono l').mono l3) vs1
    split at p'
    · exact p'.elim
    rename_i e1 he1
    refine ⟨_, _, S', M', s3, slb, r3, e1, he1, fun σ2 sl2 hw nD4 => ⟨by rw [hw vs1 fun _ h => h]; exact wipe_wipe _ _, D, acc, upd_same, ?_⟩⟩
    rw [era_upd nD4]
    have p' := EndR.up p' l3
    refine ⟨e1, S', M', s3, sl2, ?_⟩
    generalize t1 e1 S' = rt at p' ⊢
    cases rt with
    | bad => exact p'.elim
    | exc c x S2 => exact p'.elim
    | ok cc S2 =>
      intro b H4 M4 l4 s4 eb nD5
      subst eb
      have p' : EndR I S' M' Hs3 (RepW I) Q E ((if cc = true then ((el e1 S2).ne.bind fun y S2 => (compL g1 t1 el gd (uns vs1 env) (ys.drop (i + 1)) S2).bind fun zs S3 => .ok (y :: zs) S3) else compL g1 t1 el gd (uns vs1 env) (ys.drop (i + 1)) S2).bind fun zs S3 => cont (accW ++ zs) S3) := p'
      have p' := EndR.up p' l4
      have l5 := (l'.trans l3).trans l4
      cases cc with
      | false => exact ⟨S2, M4, H4, accW, acc, rfl, nD5, l5, s4, (ra.mono l3).mono l4, p'⟩
      | true =>
        refine ⟨D, acc, upd_same, ?_⟩
        rw [era_upd nD5]
        refine ⟨e1, S2, M4, s4, sl2.mono l4, ?_⟩
        have p' : EndR I S2 M4 H4 (RepW I) Q E (((el e1 S2).ne.bind fun y S2 => (compL g1 t1 el gd (uns vs1 env) (ys.drop (i + 1)) S2).bind fun zs S3 => .ok (y :: zs) S3).bind fun zs S3 => cont (accW ++ zs) S3) := p'
        generalize el e1 S2 = re at p' ⊢
        cases re with
        | bad => exact p'.elim
        | exc c x S3 => exact p'.elim
        | ok y S3 =>
          intro vy H6 M6 l6 s6 ry nD6
          have p' : EndR I S2 M4 H4 (RepW I) Q E (((compL g1 t1 el gd (uns vs1 env) (ys.drop (i + 1)) S3).bind fun zs S3 => .ok (y :: zs) S3).bind fun zs S3 => cont (accW ++ zs) S3) := p'
          have p' := EndR.up p' l6
          have ra6 := ((ra.mono l3).mono l4).mono l6
          rw [bind_assoc'] at p'
          have p' : EndR I S3 M6 H6 (RepW I) Q E ((compL g1 t1 el gd (uns vs1 env) (ys.drop (i + 1)) S3).bind fun zs S3 => cont (accW ++ y :: zs) S3) := p'
          have hb : ∃ zs S4, compL g1 t1 el gd (uns vs1 env) (ys.drop (i + 1)) S3 = .ok zs S4 ∧ cont (accW ++ y :: zs) S4 ≠ .bad := by
            rcases compL_noexc (g := g1) (ta := t1) (el := el) gd (uns vs1 env) (ys.drop (i + 1)) S3 with ⟨zs, S4, e⟩ | e
            · rw [e] at p'
              exact ⟨zs, S4, e, fun z => by
                have p' : EndR I S3 M6 H6 (RepW I) Q E (cont (accW ++ y :: zs) S4) := p'
                rw [z] at p'
                exact p'⟩
            · rw [e] at p'
              exact p'.elim
          obtain ⟨zs, S4, ec, hnb⟩ := hb
          have hlen := hcl _ _ hnb
          refine ⟨acc, upd_same, ?_, S3, M6, H6, accW ++ [y], acc ++ [vy], upd_upd, nD6, l5.trans l6, s6, RepWs.app ra6 (.cons ry .nil), ?_⟩
          · rw [sizeLine_eq, ← Paired.length ra6]
            simp at hlen
            omega
          · rw [ec] at p' ⊢
            show EndR I S3 M6 H6 (RepW I) Q E (cont (accW ++ [y] ++ zs) S4)
            rw [List.append_assoc]
            exact p'
  · left
    have hi' : i = ys.length := by omega
    subst hi'
    rw [List.drop_length] at p'
    unfold compL at p'
    split at p'
    · rename_i hgd
      have p' : EndR I S' M' Hs (RepW I) Q E (cont (accW ++ []) S') := p'
      rw [List.append_nil] at p'
      exact ⟨wk.stop S' M' Hs _ l' s' exs hgd, hnx S' M' Hs accW acc l' s' nDs ra p'⟩
    · exact p'.elim
theorem compL2_noexc (gd : Sto → Prop) (env : Env) : ∀ (xs : List W) (S : Sto), (∃ ws S', compL2 g ta d1 g1 t1 el vs1 gd env xs S = .ok ws S') ∨ compL2 g ta d1 g1 t1 el vs1 gd env xs S = .bad
  | [], S => by
    unfold compL2
    split
    · exact .inl ⟨_, _, rfl⟩
    · exact .inr rfl
  | x :: xs, S => by
    unfold compL2
    split
    · split
      · exact .inr rfl
      · rename_i e1 _
        generalize ta e1 S = r1
        cases r1 with
        | bad => exact .inr rfl
        | exc c x S1 => exact .inr rfl
        | ok c S1 =>
          show (∃ ws S', (if c = true then _ else _) = R.ok ws S') ∨ (if c = true then _ else _) = R.bad
          split
          · generalize d1 e1 S1 = r2
            cases r2 with
            | bad => exact .inr rfl
            | exc c x S1 => exact .inr rfl
            | ok q S2 =>
              show (∃ ws S', (compL g1 t1 el q.2 (uns vs1 e1) q.1 S2).bind _ = R.ok ws S') ∨ (compL g1 t1 el q.2 (uns vs1 e1) q.1 S2).bind _ = R.bad
              rcases compL_noexc (g := g1) (ta := t1) (el := el) q.2 (uns vs1 e1) q.1 S2 with ⟨ys, S3, e⟩ | e
              · rw [e]
                show (∃ ws S', (compL2 g ta d1 g1 t1 el vs1 gd env xs S3).bind _ = R.ok ws S') ∨ (compL2 g ta d1 g1 t1 el vs1 gd env xs S3).bind _ = R.bad
                rcases compL2_noexc gd env xs S3 with ⟨ws, S', e⟩ | e
                · rw [e]; exact .inl ⟨_, _, rfl⟩
                · rw [e]; exact .inr rfl
              · rw [e]; exact .inr rfl
          · exact compL2_noexc gd env xs S1
    · exact .inr rfl
abbrev aI (t : TI) : TI := fun σ H R => ∃ (D : Addr) (xs : List V), H D = some (.lst xs) ∧ t σ (era H D) fun J1 H' => H' D = none → R J1 (upd H' D (.lst xs))
theorem comp2_rd {own : List Nat} {fin : List W → Sto → R W} (c : CFin I fin) (hv : ∀ i ∈ vs, i ∈ own) {σ : L2.St} {H : Hp} {Q : VK}
    (q : rdE I w (fun e S => (di e S).bind fun p S1 => (compL2 g ta d1 g1 t1 el vs1 p.2 (uns own e) p.1 S1).bind fin) σ H Q) : tLc2 (rdI I w di) (aG (rdG I g vs)) (aT (rdT I w0 ta)) (aI (rdI I w0 d1)) (aG (rdG I g1 vs1)) (aT (rdT I w0 t1)) (aE (rdE I w0 el)) own vs1 σ H Q := by
  obtain ⟨env, S, M, s, sl, p⟩ := q
  refine ⟨env, S, M, s, sl, ?_⟩
  dsimp only at p
  generalize di env S = r at p ⊢
  cases r with
  | bad => exact p
  | exc c x S1 => exact p
  | ok qq S1 =>
    obtain ⟨xs, gd⟩ := qq
    intro J1 H1 M1 l1 s1 wk D nD
    have p : EndR I S1 M1 H1 (RepW I) Q (fun cls dd H' => w cls dd σ H') ((compL2 g ta d1 g1 t1 el vs1 gd (uns own env) xs S1).bind fin) := EndR.up (r := (compL2 g ta d1 g1 t1 el vs1 gd (uns own env) xs S1).bind fin) p l1
    have sl1 := sl.mono l1
    refine ⟨fun i m H' => ∃ (S' : Sto) (M' : List Addr) (Hs : Hp) (accW : List W) (acc : List V), H' = upd Hs D (.lst acc) ∧ Hs D = none ∧ m = xs.length - i ∧ i ≤ xs.length ∧ Le S1 M1 H1 S' M' Hs ∧ Sim I S' M' Hs ∧ RepWs I M' (mask S' M' Hs) accW acc ∧
      EndR I S' M' Hs (RepW I) Q (fun cls dd H' => w cls dd σ H') ((compL2 g ta d1 g1 t1 el vs1 gd (uns own env) (xs.drop i) S').bind fun ys S3 => fin (accW ++ ys) S3),
      ⟨_, S1, M1, H1, [], [], rfl, nD, rfl, Nat.zero_le _, Le.refl, s1, .nil, p⟩, fun i m H' ⟨S', M', Hs, accW, acc, eH, nDs, hm, hi, l', s', ra, p'⟩ => ?_⟩
    subst eH
    have exs : Ex Hs (upd Hs D (.lst acc)) := fun a o e => by rw [upd_ne (ne_of_none e nDs)]; exact e
    rcases Nat.lt_or_ge i xs.length with hlt | hge
    · right
      rw [List.drop_eq_getElem_cons hlt] at p'
      have hbad : compL2 g ta d1 g1 t1 el vs1 gd (uns own env) (xs[i] :: xs.drop (i + 1)) S' ≠ .bad := fun z => by rw [z] at p'; exact p'
      have e0 := compL2.eq_def g ta d1 g1 t1 el vs1 gd (uns own env) (xs[i] :: xs.drop (i + 1)) S'
      dsimp only at e0
      have hgd : gd S' := by
        by_cases z : gd S'
        · exact z
        · rw [if_neg z] at e0
          exact absurd e0 hbad
      rw [if_pos hgd] at e0
      rw [e0] at p'
      clear e0 hbad
      obtain ⟨hgo, hy⟩ := wk.item S' M' Hs _ l' s' exs hgd i _ (List.getElem?_eq_getElem hlt)
      refine ⟨hgo, fun H2 => ∃ (S' : Sto) (M' : List Addr) (Hs : Hp) (accW : List W) (acc : List V), H2 = upd Hs D (.lst acc) ∧ Hs D = none ∧ Le S1 M1 H1 S' M' Hs ∧ Sim I S' M' Hs ∧ RepWs I M' (mask S' M' Hs) accW acc ∧
        EndR I S' M' Hs (RepW I) Q (fun cls dd H' => w cls dd σ H') ((compL2 g ta d1 g1 t1 el vs1 gd (uns own env) (xs.drop (i + 1)) S').bind fun ys S3 => fin (accW ++ ys) S3),
        fun H2 ⟨S', M', Hs, accW, acc, a1, a2, a3, a4, a5, a6⟩ => ⟨_, by omega, S', M', Hs, accW, acc, a1, a2, rfl, hlt, a3, a4, a5, a6⟩, fun v H3 hyl => ?_⟩
      obtain ⟨Hs3, e3, nD3, s3, l3, r3⟩ : ∃ Hs3, H3 = upd Hs3 D (.lst acc) ∧ Hs3 D = none ∧ Sim I S' M' Hs3 ∧ Le S' M' Hs S' M' Hs3 ∧ RepW I M' (mask S' M' Hs3) xs[i] v := by
        rcases hy v H3 hyl with ⟨rfl, r3⟩ | ⟨T, us, ys, nT, rfl, rfl, ex, rs⟩
        · exact ⟨Hs, rfl, nDs, s', Le.refl, r3⟩
        · have TD : T ≠ D := fun z => by rw [z, upd_same] at nT; cases nT
          have nT' : Hs T = none := by rw [upd_ne TD] at nT; exact nT
          obtain ⟨a1, a2⟩ := s'.new (o := .tup us) nT'
          refine ⟨upd Hs T (.tup us), ?_, by rw [upd_ne (Ne.symm TD)]; exact nDs, a1, a2, ?_⟩
          · funext a
            by_cases z1 : a = T
            · rw [z1, upd_same, upd_ne TD, upd_same]
            · rw [upd_ne z1]
              by_cases z2 : a = D
              · rw [z2, upd_same, upd_same]
              · rw [upd_ne z2, upd_ne z2, upd_ne z1]
          · rw [ex]
            exact .tup (.inl (.inl (mask_new s' nT'))) (rs.mono a2.ex)
      subst e3
      refine ⟨D, acc, upd_same, ?_⟩
      rw [era_upd nD3]
      have slb : Slots I M' (mask S' M' Hs3) (uns own env) (wipe σ own) := uns_wipe ((sl1.mono l').mono l3) own
      split at p'
      · exact p'.elim
      rename_i e1 he1
      refine ⟨_, _, S', M', s3, slb, r3, e1, he1, fun σ2 sl2 hw nD4 => ⟨by rw [hw own hv]; exact wipe_wipe _ _, D, acc, upd_same, ?_⟩⟩
      rw [era_upd nD4]
      have p' := EndR.up p' l3
      refine ⟨e1, S', M', s3, sl2, ?_⟩
      generalize ta e1 S' = rt at p' ⊢
      cases rt with
      | bad => exact p'.elim
      | exc c x S2 => exact p'.elim
      | ok cc S2 =>
        intro b H4 M4 l4 s4 eb nD5
        subst eb
        have p' : EndR I S' M' Hs3 (RepW I) Q (fun cls dd H' => w cls dd σ H') ((if cc = true then ((d1 e1 S2).ne.bind fun p S2 => (compL g1 t1 el p.2 (uns vs1 e1) p.1 S2).bind fun ys S3 => (compL2 g ta d1 g1 t1 el vs1 gd (uns own env) (xs.drop (i + 1)) S3).bind fun zs S4 => .ok (ys ++ zs) S4) else compL2 g ta d1 g1 t1 el vs1 gd (uns own env) (xs.drop (i + 1)) S2).bind fun ys S3 => fin (accW ++ ys) S3) := p'
        have p' := EndR.up p' l4
        have l5 := (l'.trans l3).trans l4
        cases cc with
        | false => exact ⟨S2, M4, H4, accW, acc, rfl, nD5, l5, s4, (ra.mono l3).mono l4, p'⟩
        | true =>
          refine ⟨D, acc, upd_same, ?_⟩
          rw [era_upd nD5]
          refine ⟨e1, S2, M4, s4, sl2.mono l4, ?_⟩
          have p' : EndR I S2 M4 H4 (RepW I) Q (fun cls dd H' => w cls dd σ H') (((d1 e1 S2).ne.bind fun p S2 => (compL g1 t1 el p.2 (uns vs1 e1) p.1 S2).bind fun ys S3 => (compL2 g ta d1 g1 t1 el vs1 gd (uns own env) (xs.drop (i + 1)) S3).bind fun zs S4 => .ok (ys ++ zs) S4).bind fun ys S3 => fin (accW ++ ys) S3) := p'
          generalize d1 e1 S2 = re at p' ⊢
          cases re with
          | bad => exact p'.elim
          | exc c x S3 => exact p'.elim
          | ok qi S3 =>
            obtain ⟨ys, gd1⟩ := qi
            intro J2 H6 M6 l6 s6 wk2 nD6
            have p' : EndR I S2 M4 H4 (RepW I) Q (fun cls dd H' => w cls dd σ H') (((compL g1 t1 el gd1 (uns vs1 e1) ys S3).bind fun ys S3 => (compL2 g ta d1 g1 t1 el vs1 gd (uns own env) (xs.drop (i + 1)) S3).bind fun zs S4 => .ok (ys ++ zs) S4).bind fun ys S3 => fin (accW ++ ys) S3) := p'
            have p' := EndR.up p' l6
            rw [bind_assoc'] at p'
            have p' : EndR I S3 M6 H6 (RepW I) Q (fun cls dd H' => w cls dd σ H') ((compL g1 t1 el gd1 (uns vs1 e1) ys S3).bind fun ys S3 => (compL2 g ta d1 g1 t1 el vs1 gd (uns own env) (xs.drop (i + 1)) S3).bind fun zs S4 => fin (accW ++ ys ++ zs) S4) := by
              refine cast (congrArg _ (congrArg _ ?_)) p'
              funext ys S3
              rw [bind_assoc']
              refine congrArg _ ?_
              funext zs S4
              show fin (accW ++ (ys ++ zs)) S4 = _
              rw [List.append_assoc]
            exact inner_walk wk2 s6 ((sl2.mono l4).mono l6) nD6 (((ra.mono l3).mono l4).mono l6) (cont := fun ws S3 => (compL2 g ta d1 g1 t1 el vs1 gd (uns own env) (xs.drop (i + 1)) S3).bind fun zs S4 => fin (ws ++ zs) S4)
              (fun ws S h => by
                rcases compL2_noexc (g := g) (ta := ta) (d1 := d1) (g1 := g1) (t1 := t1) (el := el) (vs1 := vs1) gd (uns own env) (xs.drop (i + 1)) S with ⟨zs, S4, ez⟩ | ez
                · rw [ez] at h
                  have := c.len (ws := ws ++ zs) (S := S4) h
                  rw [List.length_append] at this
                  omega
                · rw [ez] at h
                  exact absurd rfl h)
              (fun S' M' Hs accW' acc' l7 s7 nD7 ra7 p7 => ⟨S', M', Hs, accW', acc', rfl, nD7, (l5.trans l6).trans l7, s7, ra7, p7⟩) p'
    · left
      have hi' : i = xs.length := by omega
      subst hi'
      rw [List.drop_length] at p'
      unfold compL2 at p'
      split at p'
      · rename_i hgd
        have p' : EndR I S' M' Hs (RepW I) Q (fun cls dd H' => w cls dd σ H') (fin (accW ++ []) S') := p'
        rw [List.append_nil] at p'
        exact ⟨wk.stop S' M' Hs _ l' s' exs hgd, c.end_ s' ra nDs p'⟩
      · exact p'.elim
theorem sx_comp2 (t : Cok J X w F Fi k) (hi : PI X tg iter (rdI I w di)) (hv : ∀ i ∈ vs, i ∈ own.map (·.2)) (hv1 : ∀ i ∈ vs1, i ∈ own.map (·.2)) (ok : BlkOk X.N X.env.scope scope own)
    (hg : ∀ (s : Shared) (H : Hp) (C : Addr) (cl : List (Str × Addr)) (fp : List Addr), PG (X.blk s H scope (compEnvC scope cl C X.env) fp) tg (rdG I g vs)) (ht : ∀ (s : Shared) (H : Hp) (C : Addr) (cl : List (Str × Addr)) (fp : List Addr), PTs (X.blk s H scope (compEnvC scope cl C X.env) fp) ifs (rdT I w0 ta))
    (hi1 : ∀ (s : Shared) (H : Hp) (C : Addr) (cl : List (Str × Addr)) (fp : List Addr), PI (X.blk s H scope (compEnvC scope cl C X.env) fp) tg1 iter1 (rdI I w0 d1))
    (hg1 : ∀ (s : Shared) (H : Hp) (C : Addr) (cl : List (Str × Addr)) (fp : List Addr), PG (X.blk s H scope (compEnvC scope cl C X.env) fp) tg1 (rdG I g1 vs1)) (ht1 : ∀ (s : Shared) (H : Hp) (C : Addr) (cl : List (Str × Addr)) (fp : List Addr), PTs (X.blk s H scope (compEnvC scope cl C X.env) fp) ifs1 (rdT I w0 t1))
    (he : ∀ (s : Shared) (H : Hp) (C : Addr) (cl : List (Str × Addr)) (fp : List Addr), PE (X.blk s H scope (compEnvC scope cl C X.env) fp) elt (rdE I w0 el)) (hs : ∀ x, foldedSetIterable iter X.env x = pure x := by intro _; rfl) (hs1 : ∀ env x, foldedSetIterable iter1 env x = pure x := by intro _ _; rfl) :
    PE X (.ListComp elt [⟨tg, iter, ifs, 0⟩, ⟨tg1, iter1, ifs1, 0⟩] scope pos) (rdE I w (dComp2 (own.map (·.2)) g di ta d1 g1 t1 el vs1)) :=
  PE_imp (pe_lc2 t.calm t.nd hi ok hv1 (fun s H C cl fp => PG_aside (hg s H C cl fp)) (fun s H C cl fp => PTs_aside (ht s H C cl fp)) (fun s H C cl fp => PI_aside (hi1 s H C cl fp)) (fun s H C cl fp => PG_aside (hg1 s H C cl fp)) (fun s H C cl fp => PTs_aside (ht1 s H C cl fp)) (fun s H C cl fp => PE_aside (he s H C cl fp)) hs hs1) fun σ H Q q => comp2_rd .plain hv q
end
end Py
/-! ### an instance called -/
namespace Py
open PySem PySem.Spec PyProof.Rows L2
def dCallO (F : FnTab) (c f n : Nat) (o : DE) (r : DA) : DE := fun e S => (o e S).bind fun x S1 => if isC c x S1 = true then ((r e S1).bind fun ws S2 => if isC c x S2 = true ∧ ws.length + 1 = n then F f (x :: ws) S2 else .bad) else .bad
section
variable {J : Jn} {X : Cx} {w : WX} {F Fi : FnTab} {k : Nat} {fe e : Expr} {es : List Expr} {d_o : DE} {dr : DA} {pos : Pos}
def tCallI (X : Cx) (C : Addr) (sp : Sp) (E : L2.St → XK) (tf : TE) (t : TA) : TE := fun σ H Q => tf σ H fun y H1 => ∃ a, y = V.ref a ∧ t σ H1 fun vs H2 => (∃ dx fs, H2 a = some (.ins C dx fs)) ∧ sp (V.ref a :: vs) H2 Q (E σ)
theorem pe_callI {CX : CXT} {n : Nat} {C fa : Addr} {fd : FuncData} {ps : List Str} {sp : Sp} {E : L2.St → XK} {tf : TE} {t : TA} (hf : PE X fe tf) {m : Str} (hm : Meth X.K C m fa) (em : m = ("__call__" : Str)) (hfi : PySem.W.fnIn X.K fa = true)
    (FO : FnOk X.prog X.w X.K X.mg X.base CX n fa fd ps sp) (hb : Binds X.K fd ps []) (hr : Room n X.A) (hx : ∀ σ, PassesAt CX X σ (E σ)) (ha : PA X (e :: es) t)
    (ht : eval (.Call fe (e :: es) [] pos) X.env = (do callWith pos (← eval fe X.env) [] (backTo pos (starEach (e :: es) X.env)) (backToKw pos (keywordEach [] X.env))) := by rfl)
    (he : starEach (e :: es) X.env = (false, eval e X.env) :: starEach es X.env := by rfl) (hpl : (backTo pos (starEach es X.env)).any (·.1) = false := by rfl) : PE X (.Call fe (e :: es) [] pos) (tCallI X C sp E tf t) := by
  subst em
  refine ⟨fun pins s σ H Q In h => ?_⟩
  refine Call_ (thn (hf.run pins s σ H _ In h) fun u s1 ⟨y, H1, I1, ry, a, ey, q⟩ => ?_) ht
  subst ey
  obtain rfl : u = Value.ref a := ry
  refine StX.callO_with (thn (ha.run pos pins s1 σ H1 _ I1 q) fun us s2 ⟨vs, H2, I2, r, ⟨dx, fs, hi⟩, q2⟩ => ?_) he hpl
  obtain ⟨mA, O, _⟩ := ins_get I2.hok hi
  obtain ⟨od, J1, _⟩ := O.look
  refine ⟨⟨C, _, _, J1, rfl⟩, wpAny_call (PySem.W.kco_code I2.kIn J1 rfl hm.at_ hm.fn hfi ?_)⟩
  have r2 : Vals (V.ref a :: vs ++ []) (Value.ref a :: us ++ []) := by rw [List.append_nil, List.append_nil]; exact .cons rfl r
  have q3 : sp (V.ref a :: vs ++ []) H2 Q (E σ) := by rw [List.append_nil]; exact q2
  have hl : (Value.ref a :: us ++ []).length = ps.length := by rw [← r2.length]; exact FO.len _ _ _ _ q3
  refine codeAny_mono (FO.run X.A X.stack s2 H2 ⟨Value.ref a :: us, []⟩ _ _ Q (E σ) hr I2.env0 (hb s2 _ I2.kIn hl) r2 q3) fun r s' hq => ?_
  cases r with
  | error e => exact hx σ pins H2 s2 e s' I2 hq
  | ok fl =>
    cases fl with
    | ret u => exact I2.after hq
    | next => exact False.elim hq
    | brk => exact False.elim hq
    | cont => exact False.elim hq
theorem sx_callO {c f n : Nat} {m : Str} (t : Cok J X w F Fi k) (h : J.sg.mt f = some (c, m, n)) (em : m = ("__call__" : Str)) (ho : PE X fe (rdE (J.inf X.K) w d_o)) (ha : PA X (e :: es) (rdA (J.inf X.K) w dr))
    (ht : eval (.Call fe (e :: es) [] pos) X.env = (do callWith pos (← eval fe X.env) [] (backTo pos (starEach (e :: es) X.env)) (backToKw pos (keywordEach [] X.env))) := by rfl)
    (he : starEach (e :: es) X.env = (false, eval e X.env) :: starEach es X.env := by rfl) (hpl : (backTo pos (starEach es X.env)).any (·.1) = false := by rfl) :
    PE X (.Call fe (e :: es) [] pos) (rdE (J.inf X.K) w (dCallO F c f n d_o dr)) := by
  obtain ⟨C, fa, fd, ps, h1, h2, h3, h4⟩ := t.meth f c m n h
  obtain ⟨C', fa', g1, g2, g3⟩ := t.fi f c m n h
  have eC := h1.symm.trans g1
  cases eC
  have ef := h2.at_.symm.trans g2.at_
  cases ef
  refine PE_imp (pe_callI (E := WE w) ho h2 em g3 h3 h4 t.room (fun σ => passAt t.tk σ) ha ht he hpl) fun σ H Q ⟨e, S, M, s, sl, p⟩ => ?_
  refine ⟨e, S, M, s, sl, (EndR.bind (rel1 := RepW (J.inf X.K)) p).imp fun v H1 ⟨x, S1, M1, l1, s1, r1, p1⟩ => ?_⟩
  split at p1
  · rename_i hx
    obtain ⟨a, C2, dx, vs, rfl, g, hb⟩ := recv_at s1 r1 hx
    refine ⟨a, rfl, e, S1, M1, s1, sl.mono l1, (EndR.bind (rel1 := RepWs (J.inf X.K)) p1).imp fun us H2 ⟨ws, S2, M2, l2, s2, r2, p2⟩ => ?_⟩
    split at p2
    · rename_i hh
      have r1' := r1.mono l2
      obtain ⟨b, C2, dx, vs, e1, g2, hb⟩ := recv_at s2 r1' hh.1
      cases e1
      have eC := h1.symm.trans g2
      cases eC
      exact ⟨⟨dx, _, hb⟩, by rw [← hh.2, Paired.length r2]; rfl, _ :: ws, S2, M2, s2, .cons r1' r2, p2⟩
    · exact p2.elim
  · exact p1.elim
end
end Py
/-! bool(x) where the instances of a class have their own __bool__ -/
namespace Py
open PySem PySem.Spec PyProof.Rows L2
theorem bool_new_in {prog : Program} {w : World} (x : Value) : MeetsIn prog w (Builtin.«bool.__new__» ⟨[.type "bool", x], []⟩) (fun A R s => wpAny (model prog w) A.in1 (truthy x) (fun b s' => R (.ok (.ret (.bool b))) s') (fun e s' => R (.error e) s') s) := by
  intro A R s h
  have f1 := PySem.F.conv_sub_bool
  unfold Builtin.«bool.__new__»
  refine wpAny_bind ?_
  repeat (any_goals (first | assumption | wp_step))
  exact wpAny_mono h (fun b s' hb => wpAny_pure hb) fun _ _ z => z
theorem call_bool_in {prog : Program} {w : World} {A : Around} {E : Value → Shared → Prop} {s : Shared} {x : Value} {Q : Value → Shared → Prop}
    (h : wpAny (model prog w) A.in1.in1 (truthy x) (fun b s' => Q (.bool b) s') E s) : wpAny (model prog w) A (call (.type "bool") [x]) Q E s :=
  callType_newIn PySem.F.called_bool PySem.F.newNe_bool (PySem.F.typeCall_bool_1 x) (PySem.F.newCall_bool_1 x) (fun obj => PySem.F.args_object_init_2 obj x) PySem.F.entry_bool_new (bool_new_in x) (wpAny_mono h (fun _ _ z => ⟨rfl, z⟩) fun _ _ z => z)
section
variable {J : Jn} {X : Cx} {w : WX} {F Fi : FnTab} {k : Nat}
def gBoolO (Fi : FnTab) (c f : Nat) : List W → Sto → R W
  | [.d (.obj c1 xs)], S => if c1 = c then (match Fi f [.d (.obj c1 xs)] S with
    | .ok (.d (.bl b)) S' => .ok (.d (.bl b)) S'
    | _ => .bad) else .bad
  | ws, S => gBool ws S
theorem c_boolO (t : Cok J X w F Fi k) {f c : Nat} (h : J.sg.mt f = some (c, ("__bool__" : Str), 1)) : CallR X (.type "bool") (rdCall (J.inf X.K) (gBoolO Fi c f)) := by
  intro pins s σ H vs us Q In r hh
  obtain ⟨ws, S, M, sim, rw', p⟩ := hh
  unfold gBoolO at p
  split at p
  · obtain ⟨v, rfl, rv⟩ := rw'.one
    obtain ⟨u, rfl, ru⟩ := vals1 r
    split at p
    · rename_i hc
      subst hc
      obtain ⟨C, fa, fd, ps, h1, h2, h3, h4⟩ := t.low f _ _ 1 h
      have rx0 := rv
      cases rv with
      | @obj a _ _ _ _ _ g1 e1 l1 q1 =>
      have eC := h1.symm.trans g1
      cases eC
      cases ru
      obtain ⟨od, J1⟩ := obj_look (I := J.inf X.K) In (mask_ex _ _ e1)
      obtain ⟨mm, hF⟩ := In.fr
      have hr : Room k X.A.in1.in1 := ⟨t.room.hd, by have := t.room.dp; show X.A.depth + 3 * k + 5 < _; omega, by have := t.room.un; show X.A.units + 1 + 1 + 16 * k + 200 < _; omega⟩
      refine call_bool_in (PySem.W.truthy_K hF In.ok.mod.kin J1 h2.at_ h2.fn ?_)
      have r2 : Vals [V.ref a] [Value.ref a] := .cons rel_ref .nil
      have q3 : spOf (J.inf X.K) Fi f 1 [V.ref a] H (fun v H' => ∃ b, v = .bl b ∧ Q (.bl b) H') E0 := ⟨rfl, _, S, M, sim, .cons rx0 .nil, by
        split at p
        · rename_i b S' he
          rw [he]
          intro v H' M' l' s' rv'
          cases rv'
          exact ⟨_, rfl, p (.bl b) H' M' l' s' (.bl _)⟩
        · exact p.elim⟩
      have hl : [Value.ref a].length = ps.length := by rw [← r2.length]; exact h3.len _ _ _ _ q3
      have hb := h4 s [Value.ref a] In.kIn (by rw [List.append_nil]; exact hl)
      rw [List.append_nil] at hb
      refine wpAny_call (codeAny_mono (h3.run X.A.in1.in1 X.stack s H ⟨[Value.ref a], []⟩ _ _ _ E0 hr In.env0.in1.in1 hb r2 q3) fun r s' hq => ?_)
      cases r with
      | error e => exact passL _ σ H s e s' In hq
      | ok fl =>
        cases fl with
        | ret u =>
          obtain ⟨v, H', I', rv', b, rfl, q⟩ := In.after hq
          cases rv'
          exact ⟨.bl b, H', I', rfl, q⟩
        | next => exact False.elim hq
        | brk => exact False.elim hq
        | cont => exact False.elim hq
    · exact p.elim
  · exact c_bool (I := J.inf X.K) pins s σ H vs us Q In r ⟨_, S, M, sim, rw', p⟩
end
end Py

/-! Py14: what an evaluation ends in. -/
namespace Py
open PySem PySem.Spec PyProof.Rows L2
/-- keeps simp out of what comes later -/
structure Tg {α : Type} (a : α) : Type where
def R.sat {α : Type} (r : R α) (Q : α → Sto → Prop) (_ : Tg Q := ⟨⟩) : Prop := match r with
  | .ok a S => Q a S
  | _ => False
def RS.sat (r : RS) (N : Env → Sto → Prop) (T : W → Sto → Prop) (B C : Env → Sto → Prop) (_ : Tg N := ⟨⟩) (_ : Tg T := ⟨⟩) (_ : Tg B := ⟨⟩) (_ : Tg C := ⟨⟩) : Prop := match r with
  | .nx e S => N e S
  | .rt w S => T w S
  | .bk e S => B e S
  | .ct e S => C e S
  | _ => False
def NoB : Env → Sto → Prop := fun _ _ => False
def ofO' {α : Type} (o : Option α) (Q : α → Prop) (_ : Tg Q := ⟨⟩) : Prop := match o with
  | some a => Q a
  | none => False
/-- a branch that is not walked into yet -/
def Br (c : Prop) (A B : Unit → Prop) (_ : Tg A := ⟨⟩) (_ : Tg B := ⟨⟩) : Prop := (c → A ()) ∧ (¬ c → B ())
section
variable {α β : Type} {Q Q' : α → Sto → Prop} {P : β → Sto → Prop} {r : R α} {f : α → Sto → R β} {N N' : Env → Sto → Prop} {T T' : W → Sto → Prop} {B C : Env → Sto → Prop} {e : Env} {S : Sto} {a b : DS}
theorem br_of {c : Prop} {A B : Unit → Prop} (h1 : c → A ()) (h2 : ¬ c → B ()) : Br c A B := ⟨h1, h2⟩
theorem br_t {A B : Unit → Prop} : Br True A B = A () := by simp [Br]
theorem br_f {A B : Unit → Prop} : Br False A B = B () := by simp [Br]
theorem br_cong {c : Prop} {A A' B B' : Unit → Prop} (h1 : A () = A' ()) (h2 : B () = B' ()) : Br c A B = Br c A' B' := by
  have h1 : A = A' := by funext x; exact h1
  have h2 : B = B' := by funext x; exact h2
  subst h1 h2
  rfl
theorem sat_ok {x : α} : (R.ok x S).sat Q = Q x S := rfl
theorem sat_bad : (R.bad : R α).sat Q = False := rfl
theorem sat_bind : (r.bind f).sat P = r.sat fun x S1 => (f x S1).sat P := by cases r <;> rfl
theorem sat_ne : r.ne.sat Q = r.sat Q := by cases r <;> rfl
theorem sat_mono (h : r.sat Q) (i : ∀ x S, Q x S → Q' x S) : r.sat Q' := by
  cases r with
  | ok x S => exact i _ _ h
  | exc c x S => exact h
  | bad => exact h
theorem sat_cong {r : R α} (h : ∀ x S, Q x S = Q' x S) : r.sat Q = r.sat Q' := by
  cases r with
  | ok x S => exact h _ _
  | exc c x S => rfl
  | bad => rfl
theorem sat_get (h : r.sat Q) : ∃ x S, r = .ok x S ∧ Q x S := by
  cases r with
  | ok x S => exact ⟨x, S, rfl, h⟩
  | exc c x S => exact h.elim
  | bad => exact h.elim
theorem sat_eq {x : α} {S' : Sto} (h : r = .ok x S') : r.sat Q = Q x S' := by rw [h]; rfl
theorem sat_ite {c : Prop} [Decidable c] {u v : R α} : (if c then u else v).sat Q = Br c (fun _ => u.sat Q) (fun _ => v.sat Q) := by
  by_cases h : c
  · rw [if_pos h]; simp [Br, h]
  · rw [if_neg h]; simp [Br, h]
theorem rs_nx : (RS.nx e S).sat N T B C = N e S := rfl
theorem rs_rt {w : W} : (RS.rt w S).sat N T B C = T w S := rfl
theorem rs_bk : (RS.bk e S).sat N T B C = B e S := rfl
theorem rs_ct : (RS.ct e S).sat N T B C = C e S := rfl
theorem rs_bad : (RS.bad).sat N T B C = False := rfl
theorem rs_bind {k : α → Sto → RS} : (bindS r e k).sat N T B C = r.sat fun x S1 => (k x S1).sat N T B C := by cases r <;> rfl
theorem rs_ite {c : Prop} [Decidable c] {u v : RS} : (if c then u else v).sat N T B C = Br c (fun _ => u.sat N T B C) (fun _ => v.sat N T B C) := by
  by_cases h : c
  · rw [if_pos h]; simp [Br, h]
  · rw [if_neg h]; simp [Br, h]
theorem rs_seq : (sSeq a b e S).sat N T B C = (a e S).sat (fun e1 S1 => (b e1 S1).sat N T B C) T B C := by
  unfold sSeq
  cases a e S <;> rfl
theorem rs_mono {r : RS} {B' C' : Env → Sto → Prop} (h : r.sat N T B C) (i : ∀ e S, N e S → N' e S) (j : ∀ w S, T w S → T' w S) (k : ∀ e S, B e S → B' e S) (l : ∀ e S, C e S → C' e S) : r.sat N' T' B' C' := by
  cases r with
  | nx e S => exact i _ _ h
  | rt w S => exact j _ _ h
  | bk e S => exact k _ _ h
  | ct e S => exact l _ _ h
  | exc c x e S => exact h
  | bad => exact h
/-- a statement ahead of others: what holds behind it, said -/
theorem rs_cut (N1 : Env → Sto → Prop) (h : (a e S).sat N1 T B C) (k : ∀ e1 S1, N1 e1 S1 → (b e1 S1).sat N T B C) : (sSeq a b e S).sat N T B C := by
  rw [rs_seq]
  exact rs_mono h k (fun _ _ h => h) (fun _ _ h => h) (fun _ _ h => h)
theorem rs_pass : (sPass e S).sat N T B C = N e S := rfl
/-- what a def gives back, the store cut -/
def cutR (n : Nat) (Q : W → Sto → Prop) : W → Sto → Prop := fun w S => match w with
  | .d x => Q (.d x) (S.take n)
  | .c i => if i < n then Q (.c i) (S.take n) else Q (.c i) S
theorem cutR_d {n : Nat} {Q : W → Sto → Prop} {x : D} : cutR n Q (.d x) S = Q (.d x) (S.take n) := rfl
theorem cutR_c {n i : Nat} {Q : W → Sto → Prop} : cutR n Q (.c i) S = if i < n then Q (.c i) (S.take n) else Q (.c i) S := rfl
theorem run_sat {M ar : Nat} {body : DS} {ws : List W} {Q : W → Sto → Prop} (hl : ws.length = ar) (h : (body (ws.map some ++ List.replicate (M - ws.length) none) S).sat (fun _ S' => cutR S.length Q (.d .non) S') (cutR S.length Q) NoB NoB) : (runDef M ar body ws S).sat Q := by
  unfold runDef
  rw [if_pos hl]
  generalize body (ws.map some ++ List.replicate (M - ws.length) none) S = r at h
  have go : ∀ w S', cutR S.length Q w S' → (fin S.length (.ok w S')).sat Q := fun w S' h => by
    cases w with
    | d x => exact h
    | c i =>
      show (if i < S.length then R.ok (W.c i) (S'.take S.length) else R.ok (W.c i) S').sat Q
      have h : if i < S.length then Q (.c i) (S'.take S.length) else Q (.c i) S' := h
      split
      · rename_i hi
        rw [if_pos hi] at h
        exact h
      · rename_i hi
        rw [if_neg hi] at h
        exact h
  cases r with
  | nx e S' => exact go _ _ h
  | rt w S' => exact go _ _ h
  | bk e S' => exact h.elim
  | ct e S' => exact h.elim
  | exc c x e S' => exact h.elim
  | bad => exact h.elim
/-! loops -/
theorem for_sat {ks : List Nat} {g : GT} {gd : Sto → Prop} {xs : List W} (Inv : Nat → Env → Sto → Prop) (h0 : Inv 0 e S)
    (hs : ∀ i x e S, xs[i]? = some x → Inv i e S → gd S ∧ ∃ e1, g x (uns ks e) = some e1 ∧ (b e1 S).sat (Inv (i + 1)) T (fun e2 S2 => N (uns ks e2) S2) (Inv (i + 1)))
    (hd : ∀ e S, Inv xs.length e S → gd S ∧ N (uns ks e) S) : (forL ks g b gd xs e S).sat N T B C := by
  induction xs generalizing Inv e S with
  | nil =>
    unfold forL
    obtain ⟨h1, h2⟩ := hd _ _ h0
    rw [if_pos h1]
    exact h2
  | cons x xs ih =>
    unfold forL
    obtain ⟨h1, e1, h2, h3⟩ := hs 0 x e S rfl h0
    rw [if_pos h1, h2]
    dsimp only
    have next : ∀ e2 S2, Inv 1 e2 S2 → (forL ks g b gd xs e2 S2).sat N T B C := fun e2 S2 h => ih (fun i => Inv (i + 1)) h (fun i y e S hy hi => hs (i + 1) y e S hy hi) hd
    generalize b e1 S = r at h3
    cases r with
    | nx e2 S2 => exact next _ _ h3
    | ct e2 S2 => exact next _ _ h3
    | bk e2 S2 => exact h3
    | rt w S2 => exact h3
    | exc c y e2 S2 => exact h3.elim
    | bad => exact h3.elim
theorem while_sat {ks : List Nat} {t : DT} {n : Nat} (Inv : Nat → Env → Sto → Prop) (m : Nat) (hm : m < n) (h0 : Inv m e S)
    (hs : ∀ m e S, Inv m e S → (t (uns ks e) S).sat fun c S1 => if c = true then (b (uns ks e) S1).sat (fun e2 S2 => ∃ m', m' < m ∧ Inv m' e2 S2) T (fun e2 S2 => N (uns ks e2) S2) (fun e2 S2 => ∃ m', m' < m ∧ Inv m' e2 S2) else N (uns ks e) S1) : (whileL ks t b n e S).sat N T B C := by
  induction n generalizing m e S with
  | zero => cases hm
  | succ n ih =>
    unfold whileL
    have h := hs m e S h0
    rw [rs_bind]
    refine sat_mono h fun c S1 h => ?_
    split at h
    · rename_i hc
      rw [if_pos hc]
      have next : ∀ e2 S2, (∃ m', m' < m ∧ Inv m' e2 S2) → (whileL ks t b n e2 S2).sat N T B C := fun e2 S2 ⟨m', h1, h2⟩ => ih m' (by omega) h2
      generalize b (uns ks e) S1 = r at h
      cases r with
      | nx e2 S2 => exact next _ _ h
      | ct e2 S2 => exact next _ _ h
      | bk e2 S2 => exact h
      | rt w S2 => exact h
      | exc c y e2 S2 => exact h.elim
      | bad => exact h.elim
    · rename_i hc
      rw [if_neg hc]
      exact h
theorem sWhile_eq {n : Nat} {ks : List Nat} {t : DT} : sWhile n ks t b e S = whileL ks t b n e S := rfl
theorem rs_for {ks : List Nat} {g : GT} {i : DI} : (sFor ks g i b e S).sat N T B C = (i e S).sat fun p S1 => (forL ks g b p.2 p.1 e S1).sat N T B C := by
  unfold sFor
  rw [rs_bind]
/-- a comprehension without a test -/
theorem comp_sat {g : GT} {el : DE} {gd : Sto → Prop} {xs : List W} {Q : List W → Sto → Prop} (Inv : Nat → List W → Sto → Prop) (h0 : Inv 0 [] S)
    (hs : ∀ i x ys S, xs[i]? = some x → Inv i ys S → gd S ∧ ∃ e1, g x e = some e1 ∧ (el e1 S).sat fun y S2 => Inv (i + 1) (ys ++ [y]) S2)
    (hd : ∀ ys S, Inv xs.length ys S → gd S ∧ Q ys S) : (compL g tYesD el gd e xs S).sat Q := by
  suffices h : ∀ acc, Inv 0 acc S → (compL g tYesD el gd e xs S).sat fun ys S2 => Q (acc ++ ys) S2 by simpa using h [] h0
  clear h0
  intro acc h0
  induction xs generalizing Inv acc S with
  | nil =>
    unfold compL
    obtain ⟨h1, h2⟩ := hd _ _ h0
    rw [if_pos h1, sat_ok, List.append_nil]
    exact h2
  | cons x xs ih =>
    unfold compL
    obtain ⟨h1, e1, h2, h3⟩ := hs 0 x acc S rfl h0
    rw [if_pos h1, h2]
    dsimp only [tYesD]
    rw [sat_bind, sat_ne, sat_ok, if_pos rfl, sat_bind, sat_ne]
    refine sat_mono h3 fun y S2 h3 => ?_
    rw [sat_bind]
    refine sat_mono (ih (fun i => Inv (i + 1)) (fun i z ys S hz hi => hs (i + 1) z ys S hz hi) hd (acc ++ [y]) h3) fun ys S3 h => ?_
    rw [sat_ok]
    simpa using h
/-- a comprehension with a test -/
theorem compT_sat {g : GT} {t : DT} {el : DE} {gd : Sto → Prop} {xs : List W} {Q : List W → Sto → Prop} (Inv : Nat → List W → Sto → Prop) (h0 : Inv 0 [] S)
    (hs : ∀ i x ys S, xs[i]? = some x → Inv i ys S → gd S ∧ ∃ e1, g x e = some e1 ∧ (t e1 S).sat fun c S1 => if c = true then (el e1 S1).sat fun y S2 => Inv (i + 1) (ys ++ [y]) S2 else Inv (i + 1) ys S1)
    (hd : ∀ ys S, Inv xs.length ys S → gd S ∧ Q ys S) : (compL g t el gd e xs S).sat Q := by
  suffices h : ∀ acc, Inv 0 acc S → (compL g t el gd e xs S).sat fun ys S2 => Q (acc ++ ys) S2 by simpa using h [] h0
  clear h0
  intro acc h0
  induction xs generalizing Inv acc S with
  | nil =>
    unfold compL
    obtain ⟨h1, h2⟩ := hd _ _ h0
    rw [if_pos h1, sat_ok, List.append_nil]
    exact h2
  | cons x xs ih =>
    unfold compL
    obtain ⟨h1, e1, h2, h3⟩ := hs 0 x acc S rfl h0
    rw [if_pos h1, h2]
    dsimp only
    rw [sat_bind, sat_ne]
    refine sat_mono h3 fun c S1 h3 => ?_
    cases c with
    | false =>
      rw [if_neg (by decide)] at h3 ⊢
      exact ih (fun i => Inv (i + 1)) (fun i z ys S hz hi => hs (i + 1) z ys S hz hi) hd acc h3
    | true =>
      rw [if_pos rfl] at h3 ⊢
      rw [sat_bind, sat_ne]
      refine sat_mono h3 fun y S2 h3 => ?_
      rw [sat_bind]
      refine sat_mono (ih (fun i => Inv (i + 1)) (fun i z ys S hz hi => hs (i + 1) z ys S hz hi) hd (acc ++ [y]) h3) fun ys S3 h => ?_
      rw [sat_ok]
      simpa using h
/-- a comprehension of two clauses -/
theorem comp2_sat {g g1 : GT} {t t1 : DT} {d1 : DI} {el : DE} {k1 : List Nat} {gd : Sto → Prop} {xs : List W} {Q : List W → Sto → Prop} (Inv : Nat → List W → Sto → Prop) (h0 : Inv 0 [] S)
    (hs : ∀ i x ys S, xs[i]? = some x → Inv i ys S → gd S ∧ ∃ e1, g x e = some e1 ∧ (t e1 S).sat fun c S1 => if c = true then (d1 e1 S1).sat fun p S2 => (compL g1 t1 el p.2 (uns k1 e1) p.1 S2).sat fun zs S3 => Inv (i + 1) (ys ++ zs) S3 else Inv (i + 1) ys S1)
    (hd : ∀ ys S, Inv xs.length ys S → gd S ∧ Q ys S) : (compL2 g t d1 g1 t1 el k1 gd e xs S).sat Q := by
  suffices h : ∀ acc, Inv 0 acc S → (compL2 g t d1 g1 t1 el k1 gd e xs S).sat fun ys S2 => Q (acc ++ ys) S2 by simpa using h [] h0
  clear h0
  intro acc h0
  induction xs generalizing Inv acc S with
  | nil =>
    unfold compL2
    obtain ⟨h1, h2⟩ := hd _ _ h0
    rw [if_pos h1, sat_ok, List.append_nil]
    exact h2
  | cons x xs ih =>
    unfold compL2
    obtain ⟨h1, e1, h2, h3⟩ := hs 0 x acc S rfl h0
    rw [if_pos h1, h2]
    dsimp only
    rw [sat_bind, sat_ne]
    refine sat_mono h3 fun c S1 h3 => ?_
    cases c with
    | false =>
      rw [if_neg (by decide)] at h3 ⊢
      exact ih (fun i => Inv (i + 1)) (fun i z ys S hz hi => hs (i + 1) z ys S hz hi) hd acc h3
    | true =>
      rw [if_pos rfl] at h3 ⊢
      rw [sat_bind, sat_ne]
      refine sat_mono h3 fun y S2 h3 => ?_
      rw [sat_bind]
      refine sat_mono h3 fun zs S3 h3 => ?_
      rw [sat_bind]
      refine sat_mono (ih (fun i => Inv (i + 1)) (fun i z ys S hz hi => hs (i + 1) z ys S hz hi) hd (acc ++ zs) h3) fun ys S3 h => ?_
      rw [sat_ok]
      simpa [List.append_assoc] using h
theorem comp_map {g : GT} {el : DE} {gd : Sto → Prop} {xs : List W} {Q : List W → Sto → Prop} (f : W → W) (h : ∀ x ∈ xs, ∃ e1, g x e = some e1 ∧ (el e1 S).sat fun y S2 => y = f x ∧ S2 = S) (hg : gd S) (hq : Q (xs.map f) S) : (compL g tYesD el gd e xs S).sat Q := by
  refine comp_sat (fun i ys S1 => S1 = S ∧ ys = (xs.take i).map f) ⟨rfl, rfl⟩ ?_ ?_
  · rintro i x ys S1 hx ⟨rfl, rfl⟩
    obtain ⟨e1, h1, h2⟩ := h x (List.mem_of_getElem? hx)
    refine ⟨hg, e1, h1, sat_mono h2 ?_⟩
    rintro y S2 ⟨rfl, rfl⟩
    refine ⟨rfl, ?_⟩
    rw [List.take_succ, hx, List.map_append]
    rfl
  · rintro ys S1 ⟨rfl, rfl⟩
    rw [List.take_length]
    exact ⟨hg, hq⟩
theorem comp_each {α : Type} {g : GT} {el : DE} {gd : Sto → Prop} {xs : List W} {Q : List W → Sto → Prop} {l : List α} {mk : α → W} {f : α → D} (hxs : xs = l.map mk) (h : ∀ a ∈ l, ∃ e1, g (mk a) e = some e1 ∧ (el e1 S).sat fun y S2 => y = .d (f a) ∧ S2 = S) (hg : gd S) (hq : Q ((l.map f).map W.d) S) : (compL g tYesD el gd e xs S).sat Q := by
  subst hxs
  refine comp_sat (fun i ys S1 => S1 = S ∧ ys = ((l.take i).map f).map W.d) ⟨rfl, rfl⟩ ?_ ?_
  · rintro i x ys S1 hx ⟨rfl, rfl⟩
    rw [List.getElem?_map] at hx
    cases q : l[i]? with
    | none => rw [q] at hx; cases hx
    | some a =>
      rw [q] at hx
      have hx : mk a = x := by simpa using hx
      subst hx
      obtain ⟨e1, h1, h2⟩ := h a (List.mem_of_getElem? q)
      refine ⟨hg, e1, h1, sat_mono h2 ?_⟩
      rintro y S2 ⟨rfl, rfl⟩
      refine ⟨rfl, ?_⟩
      rw [List.take_succ, q, List.map_append, List.map_append]
      rfl
  · rintro ys S1 ⟨rfl, rfl⟩
    rw [List.length_map, List.take_length]
    exact ⟨hg, hq⟩
theorem comp_nil {g : GT} {el : DE} {gd : Sto → Prop} {Q : List W → Sto → Prop} : (compL g tYesD el gd e [] S).sat Q = (gd S ∧ Q [] S) := by
  unfold compL
  by_cases h : gd S
  · rw [if_pos h, sat_ok]
    simp [h]
  · rw [if_neg h, sat_bad]
    simp [h]
theorem comp_cons {g : GT} {el : DE} {gd : Sto → Prop} {x : W} {xs : List W} {Q : List W → Sto → Prop} : (compL g tYesD el gd e (x :: xs) S).sat Q = Br (gd S) (fun _ => ofO' (g x e) fun e1 => (el e1 S).sat fun y S2 => (compL g tYesD el gd e xs S2).sat fun ys S3 => Q (y :: ys) S3) (fun _ => False) := by
  rw [compL]
  by_cases hg : gd S
  · rw [if_pos hg]
    simp only [Br, hg, not_true_eq_false, false_implies, and_true, true_implies]
    cases h : g x e with
    | none =>
      rfl
    | some e1 =>
      show (((tYesD e1 S).ne.bind fun c S1 => if c = true then ((el e1 S1).ne.bind fun y S2 => (compL g tYesD el gd e xs S2).bind fun ys S3 => .ok (y :: ys) S3) else compL g tYesD el gd e xs S1) : R (List W)).sat Q = _
      rw [sat_bind, sat_ne]
      show ((if true = true then _ else _ : R (List W))).sat Q = _
      rw [if_pos rfl, sat_bind, sat_ne]
      refine sat_cong fun y S2 => ?_
      rw [sat_bind]
      rfl
  · rw [if_neg hg, sat_bad]
    simp [Br, hg]
theorem dComp_sat {own : List Nat} {g : GT} {i : DI} {t : DT} {el : DE} {Q : W → Sto → Prop} : (dComp own g i t el e S).sat Q = (i e S).sat fun p S1 => (compL g t el p.2 (uns own e) p.1 S1).sat fun ws S2 => Br (ws.length ≤ 16777216) (fun _ => ofO' (plainL ws) fun xs => Q (.d (.lst xs)) S2) (fun _ => False) := by
  unfold dComp
  rw [sat_bind]
  refine sat_cong fun p S1 => ?_
  rw [sat_bind]
  refine sat_cong fun ws S2 => ?_
  rw [sat_ite]
  refine br_cong ?_ rfl
  generalize plainL ws = o
  cases o <;> rfl
theorem dCompC_sat {own : List Nat} {g : GT} {i : DI} {t : DT} {el : DE} {Q : W → Sto → Prop} : (dCompC own g i t el e S).sat Q = (i e S).sat fun p S1 => (compL g t el p.2 (uns own e) p.1 S1).sat fun ws S2 => Br (ws.length ≤ 16777216) (fun _ => Q (.c S2.length) (S2 ++ [.lst ws])) (fun _ => False) := by
  unfold dCompC
  rw [sat_bind]
  refine sat_cong fun p S1 => ?_
  rw [sat_bind]
  refine sat_cong fun ws S2 => ?_
  rw [sat_ite]
  rfl
theorem dComp2_sat {own k1 : List Nat} {g g1 : GT} {i d1 : DI} {t t1 : DT} {el : DE} {Q : W → Sto → Prop} : (dComp2 own g i t d1 g1 t1 el k1 e S).sat Q = (i e S).sat fun p S1 => (compL2 g t d1 g1 t1 el k1 p.2 (uns own e) p.1 S1).sat fun ws S2 => Br (ws.length ≤ 16777216) (fun _ => ofO' (plainL ws) fun xs => Q (.d (.lst xs)) S2) (fun _ => False) := by
  unfold dComp2
  rw [sat_bind]
  refine sat_cong fun p S1 => ?_
  rw [sat_bind]
  refine sat_cong fun ws S2 => ?_
  rw [sat_ite]
  refine br_cong ?_ rfl
  generalize plainL ws = o
  cases o <;> rfl
end
end Py

/-! Py15: how an evaluation is run; whole numbers. -/
namespace Py
open PySem PySem.Spec PyProof.Rows L2
theorem opPow18 {S : Sto} : opPow (.d (.int 10)) (.d (.int 18)) S = .ok (.d (.int 1000000000000000000)) S := by
  show (if (0 : Int) ≤ 18 ∧ (18 : Int) ≤ 1000000 ∧ Int.natAbs 10 < 2 ^ 64 then R.ok (W.d (.int ((10 : Int) ^ (18 : Int).toNat))) S else .bad) = _
  rw [if_pos (by decide)]
  rfl
theorem plainL_map {xs : List D} : plainL (xs.map W.d) = some xs := by
  induction xs with
  | nil => rfl
  | cons x xs ih =>
    rw [List.map_cons, plainL, ih]
theorem truO_bl {F : FnTab} {c f : Nat} {b : Bool} {S : Sto} : truO F c f (.d (.bl b)) S = .ok b S := rfl
theorem truO_int {F : FnTab} {c f : Nat} {b : Int} {S : Sto} : truO F c f (.d (.int b)) S = .ok (b != 0) S := rfl
theorem truO_tup {F : FnTab} {c f : Nat} {b : List D} {S : Sto} : truO F c f (.d (.tup b)) S = .ok (!b.isEmpty) S := rfl
theorem truO_lst {F : FnTab} {c f : Nat} {b : List D} {S : Sto} : truO F c f (.d (.lst b)) S = .ok (!b.isEmpty) S := rfl
theorem truO_non {F : FnTab} {c f : Nat} {S : Sto} : truO F c f (.d .non) S = .ok false S := rfl
theorem dec_t {p : Prop} [Decidable p] : ((decide p : Bool) = true) = p := by simp
theorem ofO_s {α : Type} {a : α} {Q : α → Prop} : ofO' (some a) Q = Q a := rfl
theorem ofO_n {α : Type} {Q : α → Prop} : ofO' (none : Option α) Q = False := rfl
def GV (o : Option (Option W)) (Q : W → Sto → Prop) (S : Sto) (_ : Tg Q := ⟨⟩) : Prop := match o with
  | some (some w) => Q w S
  | _ => False
theorem GV_s {w : W} {Q : W → Sto → Prop} {S : Sto} : GV (some (some w)) Q S = Q w S := rfl
def tupR (ws : List W) (S : Sto) : R W := match plainL ws with
  | some xs => if xs.length ≤ sizeLine then .ok (.d (.tup xs)) S else .bad
  | none => .bad
def lstR (ws : List W) (S : Sto) : R W := match plainL ws with
  | some xs => if xs.length ≤ sizeLine then .ok (.d (.lst xs)) S else .bad
  | none => .bad
def lstCR (ws : List W) (S : Sto) : R W := if ws.length ≤ sizeLine then .ok (.c S.length) (S ++ [.lst ws]) else .bad
def tbR (x : W) (S : Sto) : R Bool := match x with
  | .d (.bl b) => .ok b S
  | _ => .bad
def isTR (T : Ty) (x : W) (S : Sto) : R W := match tyOf x S with
  | some t => .ok (.d (.bl (isT t T))) S
  | none => .bad
def isCR (sub : Nat → Nat → Bool) (c : Nat) (x : W) (S : Sto) : R W := match tyOf x S with
  | some (.cls c') => .ok (.d (.bl (sub c' c))) S
  | some _ => .ok (.d (.bl false)) S
  | none => .bad
def someR (x : W) (S : Sto) : R (Option Int) := match x with
  | .d (.int i) => .ok (some i) S
  | _ => .bad
def itR (x : W) (S : Sto) : R (List W × (Sto → Prop)) := match itemsOf x S with
  | some p => .ok p S
  | none => .bad
section
variable {α β : Type} {Q : W → Sto → Prop} {QA : List W → Sto → Prop} {QT : Bool → Sto → Prop} {QI : List W × (Sto → Prop) → Sto → Prop} {QO : Option Int → Sto → Prop} {N : Env → Sto → Prop} {T : W → Sto → Prop} {B C : Env → Sto → Prop} {e : Env} {S : Sto} {a b o : DE} {r : DA} {t u : DT} {s s' : DS} {F Fi : FnTab} {f n c i j : Nat}
theorem s_var : (dVar i e S).sat Q = GV e[i]? Q S := by
  unfold dVar GV
  split <;> simp_all [R.sat]
theorem s_c {x : D} : (dC x e S).sat Q = Q (.d x) S := rfl
theorem s_op {g : W → W → Sto → R W} : (dOp g a b e S).sat Q = (a e S).sat fun x S1 => (b e S1).sat fun y S2 => (g x y S2).sat Q := by
  unfold dOp
  repeat' first | rfl | rw [sat_bind] | rw [sat_ne] | (refine sat_cong fun _ _ => ?_) | rw [sat_ite] | (refine br_cong ?_ ?_)
theorem s_un {g : W → Sto → R W} : (dUn g a e S).sat Q = (a e S).sat fun x S1 => (g x S1).sat Q := by
  unfold dUn
  repeat' first | rfl | rw [sat_bind] | rw [sat_ne] | (refine sat_cong fun _ _ => ?_) | rw [sat_ite] | (refine br_cong ?_ ?_)
theorem s_nil : (dNil e S).sat QA = QA [] S := rfl
theorem s_cons : (dCons a r e S).sat QA = (a e S).sat fun x S1 => (r e S1).sat fun xs S2 => QA (x :: xs) S2 := by
  unfold dCons
  repeat' first | rfl | rw [sat_bind] | rw [sat_ne] | (refine sat_cong fun _ _ => ?_) | rw [sat_ite] | (refine br_cong ?_ ?_)
theorem s_tup : (dTup r e S).sat Q = (r e S).sat fun ws S1 => (tupR ws S1).sat Q := by
  unfold dTup
  repeat' first | rfl | rw [sat_bind] | rw [sat_ne] | (refine sat_cong fun _ _ => ?_) | rw [sat_ite] | (refine br_cong ?_ ?_)
theorem s_lst : (dLst r e S).sat Q = (r e S).sat fun ws S1 => (lstR ws S1).sat Q := by
  unfold dLst
  repeat' first | rfl | rw [sat_bind] | rw [sat_ne] | (refine sat_cong fun _ _ => ?_) | rw [sat_ite] | (refine br_cong ?_ ?_)
theorem s_lstC : (dLstC r e S).sat Q = (r e S).sat fun ws S1 => (lstCR ws S1).sat Q := by
  unfold dLstC
  repeat' first | rfl | rw [sat_bind] | rw [sat_ne] | (refine sat_cong fun _ _ => ?_) | rw [sat_ite] | (refine br_cong ?_ ?_)
theorem s_frz : (dFrz a e S).sat Q = (a e S).sat fun x S1 => (frz x S1).sat Q := by
  unfold dFrz
  repeat' first | rfl | rw [sat_bind] | rw [sat_ne] | (refine sat_cong fun _ _ => ?_) | rw [sat_ite] | (refine br_cong ?_ ?_)
theorem s_call : (dCall F f n r e S).sat Q = (r e S).sat fun ws S1 => Br (ws.length = n) (fun _ => (F f ws S1).sat Q) (fun _ => False) := by
  unfold dCall
  repeat' first | rfl | rw [sat_bind] | rw [sat_ne] | (refine sat_cong fun _ _ => ?_) | rw [sat_ite] | (refine br_cong ?_ ?_)
theorem s_meth : (dMeth F c f n a r e S).sat Q = (a e S).sat fun x S1 => Br (isC c x S1 = true) (fun _ => (r e S1).sat fun ws S2 => Br (ws.length + 1 = n) (fun _ => (F f (x :: ws) S2).sat Q) (fun _ => False)) (fun _ => False) := by
  unfold dMeth
  repeat' first | rfl | rw [sat_bind] | rw [sat_ne] | (refine sat_cong fun _ _ => ?_) | rw [sat_ite] | (refine br_cong ?_ ?_)
theorem s_mk {g : List W → Sto → R W} {dfl : List D} : (dMk g dfl r e S).sat Q = (r e S).sat fun ws S1 => (g (ws ++ dfl.map W.d) S1).sat Q := by
  unfold dMk
  repeat' first | rfl | rw [sat_bind] | rw [sat_ne] | (refine sat_cong fun _ _ => ?_) | rw [sat_ite] | (refine br_cong ?_ ?_)
theorem s_mkK {g : List W → Sto → R W} {m k : Nat} {r' : DA} : (dMkK m k g r r' e S).sat Q = (r e S).sat fun ws S1 => (r' e S1).sat fun us S2 => Br (ws.length = m ∧ us.length = k) (fun _ => (g (ws ++ us) S2).sat Q) (fun _ => False) := by
  unfold dMkK
  repeat' first | rfl | rw [sat_bind] | rw [sat_ne] | (refine sat_cong fun _ _ => ?_) | rw [sat_ite] | (refine br_cong ?_ ?_)
theorem s_attr : (dAttr c i a e S).sat Q = (a e S).sat fun x S1 => (attr c i x S1).sat Q := by
  unfold dAttr
  repeat' first | rfl | rw [sat_bind] | rw [sat_ne] | (refine sat_cong fun _ _ => ?_) | rw [sat_ite] | (refine br_cong ?_ ?_)
theorem s_tr {g : W → Sto → R Bool} : (dTr g a e S).sat QT = (a e S).sat fun x S1 => (g x S1).sat QT := by
  unfold dTr
  repeat' first | rfl | rw [sat_bind] | rw [sat_ne] | (refine sat_cong fun _ _ => ?_) | rw [sat_ite] | (refine br_cong ?_ ?_)
theorem s_tb : (dTb a e S).sat QT = (a e S).sat fun x S1 => (tbR x S1).sat QT := by
  unfold dTb
  repeat' first | rfl | rw [sat_bind] | rw [sat_ne] | (refine sat_cong fun _ _ => ?_) | rw [sat_ite] | (refine br_cong ?_ ?_)
theorem s_and : (dAnd t u e S).sat QT = (t e S).sat fun c S1 => Br (c = true) (fun _ => (u e S1).sat QT) (fun _ => QT false S1) := by
  unfold dAnd
  repeat' first | rfl | rw [sat_bind] | rw [sat_ne] | (refine sat_cong fun _ _ => ?_) | rw [sat_ite] | (refine br_cong ?_ ?_)
theorem s_or : (dOr t u e S).sat QT = (t e S).sat fun c S1 => Br (c = true) (fun _ => QT true S1) (fun _ => (u e S1).sat QT) := by
  unfold dOr
  repeat' first | rfl | rw [sat_bind] | rw [sat_ne] | (refine sat_cong fun _ _ => ?_) | rw [sat_ite] | (refine br_cong ?_ ?_)
theorem s_not : (dNot t e S).sat QT = (t e S).sat fun c S1 => QT (!c) S1 := by
  unfold dNot
  repeat' first | rfl | rw [sat_bind] | rw [sat_ne] | (refine sat_cong fun _ _ => ?_) | rw [sat_ite] | (refine br_cong ?_ ?_)
theorem s_andV : (dAndV a b e S).sat Q = (a e S).sat fun x S1 => (tbR x S1).sat fun c S1 => Br (c = true) (fun _ => (b e S1).sat Q) (fun _ => Q (.d (.bl false)) S1) := by
  unfold dAndV
  rw [sat_bind]
  refine sat_cong fun x S1 => ?_
  cases x with
  | c i => rfl
  | d y => cases y <;> first | rfl | (show (if _ then _ else _ : R W).sat Q = _; rw [sat_ite]; rfl)
theorem s_orV : (dOrV a b e S).sat Q = (a e S).sat fun x S1 => (tbR x S1).sat fun c S1 => Br (c = true) (fun _ => Q (.d (.bl true)) S1) (fun _ => (b e S1).sat Q) := by
  unfold dOrV
  rw [sat_bind]
  refine sat_cong fun x S1 => ?_
  cases x with
  | c i => rfl
  | d y => cases y <;> first | rfl | (show (if _ then _ else _ : R W).sat Q = _; rw [sat_ite]; rfl)
theorem s_notV : (dNotV a e S).sat Q = (a e S).sat fun x S1 => (tbR x S1).sat fun c S1 => Q (.d (.bl (!c))) S1 := by
  unfold dNotV
  rw [sat_bind]
  refine sat_cong fun x S1 => ?_
  cases x with
  | c i => rfl
  | d y => cases y <;> first | rfl | (show (if _ then _ else _ : R W).sat Q = _; rw [sat_ite]; rfl)
theorem s_ifE : (dIf t a b e S).sat Q = (t e S).sat fun c S1 => Br (c = true) (fun _ => (a e S1).sat Q) (fun _ => (b e S1).sat Q) := by
  unfold dIf
  repeat' first | rfl | rw [sat_bind] | rw [sat_ne] | (refine sat_cong fun _ _ => ?_) | rw [sat_ite] | (refine br_cong ?_ ?_)
theorem s_chain {g h : W → W → Sto → R W} {d : DE} : (dChain g h a b d e S).sat Q = (a e S).sat fun x S1 => (b e S1).sat fun y S2 => (g x y S2).sat fun z S3 => (tbR z S3).sat fun k S3 => Br (k = true) (fun _ => (d e S3).sat fun u S4 => (h y u S4).sat Q) (fun _ => Q (.d (.bl false)) S3) := by
  unfold dChain
  rw [sat_bind]
  refine sat_cong fun x S1 => ?_
  rw [sat_bind]
  refine sat_cong fun y2 S2 => ?_
  rw [sat_bind, sat_ne]
  refine sat_cong fun z S3 => ?_
  cases z with
  | c i => rfl
  | d y =>
    cases y with
    | bl k =>
      show (if k = true then ((d e S3).bind fun u S4 => (h y2 u S4).ne) else R.ok (.d (.bl false)) S3).sat Q = Br (k = true) (fun _ => (d e S3).sat fun u S4 => (h y2 u S4).sat Q) (fun _ => Q (.d (.bl false)) S3)
      rw [sat_ite]
      refine br_cong ?_ rfl
      repeat' first | rfl | rw [sat_bind] | rw [sat_ne] | (refine sat_cong fun _ _ => ?_) | rw [sat_ite] | (refine br_cong ?_ ?_)
    | _ => rfl
theorem s_B {g : List W → Sto → R W} : (dB g r e S).sat Q = (r e S).sat fun ws S1 => (g ws S1).sat Q := by
  unfold dB
  repeat' first | rfl | rw [sat_bind] | rw [sat_ne] | (refine sat_cong fun _ _ => ?_) | rw [sat_ite] | (refine br_cong ?_ ?_)
theorem s_isT {X : Ty} : (dIsT X a e S).sat Q = (a e S).sat fun x S1 => (isTR X x S1).sat Q := by
  unfold dIsT
  repeat' first | rfl | rw [sat_bind] | rw [sat_ne] | (refine sat_cong fun _ _ => ?_) | rw [sat_ite] | (refine br_cong ?_ ?_)
theorem s_isC {sub : Nat → Nat → Bool} : (dIsC sub c a e S).sat Q = (a e S).sat fun x S1 => (isCR sub c x S1).sat Q := by
  unfold dIsC
  repeat' first | rfl | rw [sat_bind] | rw [sat_ne] | (refine sat_cong fun _ _ => ?_) | rw [sat_ite] | (refine br_cong ?_ ?_)
theorem s_none : (oNone e S).sat QO = QO none S := rfl
theorem s_some : (oSome a e S).sat QO = (a e S).sat fun x S1 => (someR x S1).sat QO := by
  unfold oSome
  repeat' first | rfl | rw [sat_bind] | rw [sat_ne] | (refine sat_cong fun _ _ => ?_) | rw [sat_ite] | (refine br_cong ?_ ?_)
theorem s_sl {l h : DO} : (dSl a l h e S).sat Q = (a e S).sat fun x S1 => (l e S1).sat fun y S2 => (h e S2).sat fun z S3 => (slc x y z S3).sat Q := by
  unfold dSl
  repeat' first | rfl | rw [sat_bind] | rw [sat_ne] | (refine sat_cong fun _ _ => ?_) | rw [sat_ite] | (refine br_cong ?_ ?_)
theorem s_app : (dApp o a e S).sat Q = (o e S).sat fun x S1 => Br (isLc x S1 = true) (fun _ => (a e S1).sat fun y S2 => ofO' (app x y S2) fun S3 => Q (.d .non) S3) (fun _ => False) := by
  unfold dApp
  repeat' first | rfl | rw [sat_bind] | rw [sat_ne] | (refine sat_cong fun _ _ => ?_) | rw [sat_ite] | (refine br_cong ?_ ?_)
  rename_i y S2
  unfold ofO'
  cases app _ y S2 <;> rfl
theorem s_any : (iAny a e S).sat QI = (a e S).sat fun x S1 => (itR x S1).sat QI := by
  unfold iAny
  repeat' first | rfl | rw [sat_bind] | rw [sat_ne] | (refine sat_cong fun _ _ => ?_) | rw [sat_ite] | (refine br_cong ?_ ?_)
theorem s_r1 : (iRange1 a e S).sat QI = (a e S).sat fun x S1 => ofO' (rg1 x) fun p => QI p S1 := by
  unfold iRange1
  repeat' first | rfl | rw [sat_bind] | rw [sat_ne] | (refine sat_cong fun _ _ => ?_) | rw [sat_ite] | (refine br_cong ?_ ?_)
  generalize rg1 _ = o
  cases o <;> rfl
theorem s_r2 : (iRange2 a b e S).sat QI = (a e S).sat fun x S1 => (b e S1).sat fun y S2 => ofO' (rg2 x y) fun p => QI p S2 := by
  unfold iRange2
  repeat' first | rfl | rw [sat_bind] | rw [sat_ne] | (refine sat_cong fun _ _ => ?_) | rw [sat_ite] | (refine br_cong ?_ ?_)
  generalize rg2 _ _ = o
  cases o <;> rfl
theorem s_r3 : (iRange3 a b o e S).sat QI = (a e S).sat fun x S1 => (b e S1).sat fun y S2 => (o e S2).sat fun z S3 => ofO' (rg3 x y z) fun p => QI p S3 := by
  unfold iRange3
  repeat' first | rfl | rw [sat_bind] | rw [sat_ne] | (refine sat_cong fun _ _ => ?_) | rw [sat_ite] | (refine br_cong ?_ ?_)
  generalize rg3 _ _ _ = o
  cases o <;> rfl
theorem s_zip : (iZip a b e S).sat QI = (a e S).sat fun x S1 => (b e S1).sat fun y S2 => ofO' (zipO x y S2) fun p => QI p S2 := by
  unfold iZip
  repeat' first | rfl | rw [sat_bind] | rw [sat_ne] | (refine sat_cong fun _ _ => ?_) | rw [sat_ite] | (refine br_cong ?_ ?_)
  generalize zipO _ _ _ = o
  cases o <;> rfl
theorem s_rev : (iRev a e S).sat QI = (a e S).sat fun x S1 => ofO' (revO x S1) fun p => QI p S1 := by
  unfold iRev
  rw [sat_bind]
  refine sat_cong fun x S1 => ?_
  generalize revO _ _ = o
  cases o <;> rfl
theorem s_enum : (iEnum a e S).sat QI = (a e S).sat fun x S1 => ofO' (enumO x S1) fun p => QI p S1 := by
  unfold iEnum
  rw [sat_bind]
  refine sat_cong fun x S1 => ?_
  generalize enumO _ _ = o
  cases o <;> rfl
theorem s_bm {T : String} {g : W → List W → Sto → R W} : (dBM T g a r e S).sat Q = (a e S).sat fun x S1 => Br (tyS T x S1 = true) (fun _ => (r e S1).sat fun ws S2 => (g x ws S2).sat Q) (fun _ => False) := by
  unfold dBM
  repeat' first | rfl | rw [sat_bind] | rw [sat_ne] | (refine sat_cong fun _ _ => ?_) | rw [sat_ite] | (refine br_cong ?_ ?_)
theorem s_callO : (dCallO F c f n a r e S).sat Q = (a e S).sat fun x S1 => Br (isC c x S1 = true) (fun _ => (r e S1).sat fun ws S2 => Br (isC c x S2 = true ∧ ws.length + 1 = n) (fun _ => (F f (x :: ws) S2).sat Q) (fun _ => False)) (fun _ => False) := by
  unfold dCallO
  repeat' first | rfl | rw [sat_bind] | rw [sat_ne] | (refine sat_cong fun _ _ => ?_) | rw [sat_ite] | (refine br_cong ?_ ?_)
theorem s_prop : (dProp Fi c f a e S).sat Q = (a e S).sat fun x S1 => Br (isC c x S1 = true) (fun _ => (Fi f [x] S1).sat Q) (fun _ => False) := by
  unfold dProp
  rw [sat_bind]
  refine sat_cong fun x S1 => ?_
  rw [sat_ite, sat_ne]
  rfl
theorem s_yes : (tYesD e S).sat QT = QT true S := rfl
theorem q_expr : (sExpr a e S).sat N T B C = (a e S).sat fun _ S1 => N e S1 := by
  unfold sExpr
  repeat' first | rfl | rw [rs_bind] | (refine sat_cong fun _ _ => ?_) | rw [rs_ite] | (refine br_cong ?_ ?_)
theorem q_ret : (sRet a e S).sat N T B C = (a e S).sat T := by
  unfold sRet
  rw [rs_bind]
  rfl
theorem q_retN : (sRetN e S).sat N T B C = T (.d .non) S := rfl
theorem q_if : (sIf t s s' e S).sat N T B C = (t e S).sat fun c S1 => Br (c = true) (fun _ => (s e S1).sat N T B C) (fun _ => (s' e S1).sat N T B C) := by
  unfold sIf
  repeat' first | rfl | rw [rs_bind] | (refine sat_cong fun _ _ => ?_) | rw [rs_ite] | (refine br_cong ?_ ?_)
theorem q_break : (sBreak e S).sat N T B C = B e S := rfl
theorem q_cont : (sCont e S).sat N T B C = C e S := rfl
theorem q_never : (sNever e S).sat N T B C = False := rfl
theorem q_asg {g : GT} : (sAsg a g e S).sat N T B C = (a e S).sat fun w S1 => ofO' (g w e) fun e1 => N e1 S1 := by
  unfold sAsg
  rw [rs_bind]
  refine sat_cong fun x S1 => ?_
  generalize g x e = o
  cases o <;> rfl
theorem q_par : (sPar i j a b e S).sat N T B C = (a e S).sat fun x S1 => (b e S1).sat fun y S2 => N ((e.set i (some x)).set j (some y)) S2 := by
  unfold sPar
  repeat' first | rfl | rw [rs_bind] | (refine sat_cong fun _ _ => ?_) | rw [rs_ite] | (refine br_cong ?_ ?_)
theorem q_aug {g : W → W → Sto → R W} : (sAug i g a e S).sat N T B C = GV e[i]? (fun x S => (a e S).sat fun y S1 => (g x y S1).sat fun z S2 => N (e.set i (some z)) S2) S := by
  unfold sAug GV
  split
  · rename_i h
    simp only [h]
    rw [rs_bind]
    refine sat_cong fun _ _ => ?_
    rw [rs_bind, sat_ne]
    rfl
  · rename_i h
    first
    | rfl
    | (split
       · rename_i x hx; exact absurd hx (h x)
       · rfl)
theorem q_sub {v : DE} : (sSub v o a e S).sat N T B C = (v e S).sat fun x S1 => (o e S1).sat fun y S2 => (a e S2).sat fun z S3 => ofO' (setIx y z x S3) fun S4 => N e S4 := by
  unfold sSub
  repeat' first | rfl | rw [rs_bind] | (refine sat_cong fun _ _ => ?_) | rw [rs_ite] | (refine br_cong ?_ ?_)
  generalize setIx _ _ _ _ = o
  cases o <;> rfl
theorem q_fld {v : DE} : (sFldD c i v o e S).sat N T B C = (v e S).sat fun x S1 => (o e S1).sat fun y S2 => ofO' (setAt c i y x S2) fun S3 => N e S3 := by
  unfold sFldD
  repeat' first | rfl | rw [rs_bind] | (refine sat_cong fun _ _ => ?_) | rw [rs_ite] | (refine br_cong ?_ ?_)
  generalize setAt _ _ _ _ _ = o
  cases o <;> rfl
theorem q_frz : (sFrz i s e S).sat N T B C = GV e[i]? (fun x S => (frz x S).sat fun w S1 => (s (e.set i (some w)) S1).sat N T B C) S := by
  unfold sFrz GV
  split
  · rename_i h; simp only [h, rs_bind]
  · rename_i h
    first
    | rfl
    | (split
       · rename_i x hx; exact absurd hx (h x)
       · rfl)
theorem q_form {g : W → Sto → R W} : RS.sat ((fun e S => match e[i]? with
  | some (some w) => bindS (g w S) e fun w' S' => s (e.set i (some w')) S'
  | _ => RS.bad : DS) e S) N T B C = GV e[i]? (fun x S => (g x S).sat fun w S1 => (s (e.set i (some w)) S1).sat N T B C) S := by
  dsimp only
  unfold GV
  split
  · rename_i h; simp only [h, rs_bind]
  · rename_i h
    first
    | rfl
    | (split
       · rename_i x hx; exact absurd hx (h x)
       · rfl)
theorem q_frz2 : (sFrz2 i s e S).sat N T B C = GV e[i]? (fun x S => (frz2 x S).sat fun w S1 => (s (e.set i (some w)) S1).sat N T B C) S := q_form
theorem q_mv : (sMv i s e S).sat N T B C = GV e[i]? (fun x S => (mv x S).sat fun w S1 => (s (e.set i (some w)) S1).sat N T B C) S := q_form
theorem q_while {ks : List Nat} : (sWhile n ks t s e S).sat N T B C = (whileL ks t s n e S).sat N T B C := rfl
end
theorem atI_0 {α : Type} {x0 : α} {l : List α} : atI (x0 :: l) 0 = some x0 := by
  unfold atI ixN
  rw [if_pos (by omega), if_pos (by simp only [List.length_cons]; omega)]
  rfl
theorem atI_1 {α : Type} {x0 x1 : α} {l : List α} : atI (x0 :: x1 :: l) 1 = some x1 := by
  unfold atI ixN
  rw [if_pos (by omega), if_pos (by simp only [List.length_cons]; omega)]
  rfl
theorem atI_2 {α : Type} {x0 x1 x2 : α} {l : List α} : atI (x0 :: x1 :: x2 :: l) 2 = some x2 := by
  unfold atI ixN
  rw [if_pos (by omega), if_pos (by simp only [List.length_cons]; omega)]
  rfl
theorem atI_3 {α : Type} {x0 x1 x2 x3 : α} {l : List α} : atI (x0 :: x1 :: x2 :: x3 :: l) 3 = some x3 := by
  unfold atI ixN
  rw [if_pos (by omega), if_pos (by simp only [List.length_cons]; omega)]
  rfl
theorem atI_4 {α : Type} {x0 x1 x2 x3 x4 : α} {l : List α} : atI (x0 :: x1 :: x2 :: x3 :: x4 :: l) 4 = some x4 := by
  unfold atI ixN
  rw [if_pos (by omega), if_pos (by simp only [List.length_cons]; omega)]
  rfl
theorem atI_5 {α : Type} {x0 x1 x2 x3 x4 x5 : α} {l : List α} : atI (x0 :: x1 :: x2 :: x3 :: x4 :: x5 :: l) 5 = some x5 := by
  unfold atI ixN
  rw [if_pos (by omega), if_pos (by simp only [List.length_cons]; omega)]
  rfl
theorem atI_6 {α : Type} {x0 x1 x2 x3 x4 x5 x6 : α} {l : List α} : atI (x0 :: x1 :: x2 :: x3 :: x4 :: x5 :: x6 :: l) 6 = some x6 := by
  unfold atI ixN
  rw [if_pos (by omega), if_pos (by simp only [List.length_cons]; omega)]
  rfl
theorem atI_7 {α : Type} {x0 x1 x2 x3 x4 x5 x6 x7 : α} {l : List α} : atI (x0 :: x1 :: x2 :: x3 :: x4 :: x5 :: x6 :: x7 :: l) 7 = some x7 := by
  unfold atI ixN
  rw [if_pos (by omega), if_pos (by simp only [List.length_cons]; omega)]
  rfl
theorem ixN_0 {n : Nat} : ixN (n + 1) 0 = some 0 := by
  unfold ixN
  rw [if_pos (by omega), if_pos (by omega)]
  rfl
theorem ixN_1 {n : Nat} : ixN (n + 2) 1 = some 1 := by
  unfold ixN
  rw [if_pos (by omega), if_pos (by omega)]
  rfl
theorem ixN_2 {n : Nat} : ixN (n + 3) 2 = some 2 := by
  unfold ixN
  rw [if_pos (by omega), if_pos (by omega)]
  rfl
theorem ixN_3 {n : Nat} : ixN (n + 4) 3 = some 3 := by
  unfold ixN
  rw [if_pos (by omega), if_pos (by omega)]
  rfl
theorem ixN_4 {n : Nat} : ixN (n + 5) 4 = some 4 := by
  unfold ixN
  rw [if_pos (by omega), if_pos (by omega)]
  rfl
theorem ixN_5 {n : Nat} : ixN (n + 6) 5 = some 5 := by
  unfold ixN
  rw [if_pos (by omega), if_pos (by omega)]
  rfl
theorem ixN_6 {n : Nat} : ixN (n + 7) 6 = some 6 := by
  unfold ixN
  rw [if_pos (by omega), if_pos (by omega)]
  rfl
theorem ixN_7 {n : Nat} : ixN (n + 8) 7 = some 7 := by
  unfold ixN
  rw [if_pos (by omega), if_pos (by omega)]
  rfl
theorem rs_hold {a b : DS} {e : Env} {S : Sto} {N : Env → Sto → Prop} {T : W → Sto → Prop} {B C : Env → Sto → Prop} (h : ∀ b', b' = b → (a e S).sat (fun e1 S1 => (b' e1 S1).sat N T B C) T B C) : (sSeq a b e S).sat N T B C := by
  rw [rs_seq]
  exact h b rfl
theorem set_get {S : Sto} {i : Nat} {o : Ce} (hi : i < S.length) : (List.set S i o)[i]? = some o := by rw [List.getElem?_set]; simp [hi]
theorem set_same {S : Sto} {i : Nat} {o : Ce} (h : S[i]? = some o) : S.set i o = S := by
  refine List.ext_getElem? fun j => ?_
  rw [List.getElem?_set]
  split
  · rename_i e
    subst e
    rw [if_pos (List.getElem?_eq_some_iff.mp h).1, h]
  · rfl
/-! whole numbers -/
theorem smallI_of {i : Int} (h0 : -1000000000 ≤ i) (h1 : i ≤ 1000000000) : smallI i = true := by
  have e : (2 : Int) ^ 62 = 4611686018427387904 := by decide
  unfold smallI
  rw [e, Bool.and_eq_true, decide_eq_true_eq, decide_eq_true_eq]
  omega
theorem intBits_lt {i : Int} {m : Nat} (h : i.natAbs < 2 ^ m) : Builtin.Int.intBits i ≤ m := by
  unfold Builtin.Int.intBits
  split
  · exact Nat.zero_le _
  · rename_i hi
    have : i.natAbs ≠ 0 := by simpa using hi
    have := (Nat.log2_lt this).mpr h
    omega
theorem mulOk {i j : Int} {m n : Nat} (hi : i.natAbs < 2 ^ m) (hj : j.natAbs < 2 ^ n) (h : m + n ≤ 134217728) : IntMulOk i j := PyProof.Rows.mulOk_of_bits (intBits_lt hi) (intBits_lt hj) h
theorem mulOkL {i j : Int} (hi : i.natAbs < 2 ^ 64) : IntMulOk i j := IntMulOk.of_left (intBits_lt hi)
theorem mulOkR {i j : Int} (hj : j.natAbs < 2 ^ 64) : IntMulOk i j := IntMulOk.of_right (intBits_lt hj)
theorem divOk {i j : Int} (hj : j.natAbs < 2 ^ 8999) : Builtin.divisionGoesByPylong i j = false := by
  refine PyProof.noPylong_of_log2 ?_
  by_cases h : j.natAbs = 0
  · rw [h]
    decide
  · exact Nat.lt_trans ((Nat.log2_lt h).mpr hj) (by decide)
theorem divOkS {i j : Int} (hj : j.natAbs < 2 ^ 64) : Builtin.divisionGoesByPylong i j = false := divOk (Nat.lt_of_lt_of_le hj (Nat.pow_le_pow_right (by decide) (by decide)))
end Py

open Py
local macro_rules
  | `(tactic| simp! [$xs,*]) => `(tactic| simp (config := { dsimp := false, implicitDefEqProofs := false }) only [↓rs_pass, ↓rs_for, ↓dComp_sat, ↓dCompC_sat, ↓dComp2_sat, ↓comp_nil, ↓comp_cons, plainL_map, ↓br_t, ↓br_f, ↓sat_ok, ↓sat_bad, ↓sat_ite, ↓GV_s, ↓ofO_s, ↓ofO_n,
      ↓s_var, ↓s_c, ↓s_op, ↓s_un, ↓s_nil, ↓s_cons, ↓s_tup, ↓s_lst, ↓s_lstC, ↓s_frz, ↓s_call, ↓s_meth, ↓s_mk, ↓s_mkK, ↓s_attr, ↓s_tr, ↓s_tb, ↓s_and, ↓s_or, ↓s_not, ↓s_andV, ↓s_orV, ↓s_notV, ↓s_ifE, ↓s_chain, ↓s_B, ↓s_isT, ↓s_isC, ↓s_none, ↓s_some, ↓s_sl, ↓s_app, ↓s_any, ↓s_r1, ↓s_r2, ↓s_r3, ↓s_zip, ↓s_rev, ↓s_enum, ↓s_bm, ↓s_callO, ↓s_prop, ↓s_yes,
      ↓q_expr, ↓q_ret, ↓q_retN, ↓q_if, ↓q_break, ↓q_cont, ↓q_never, ↓q_asg, ↓q_par, ↓q_aug, ↓q_sub, ↓q_fld, ↓q_frz, ↓q_frz2, ↓q_mv, ↓q_while,
      GV_s, ofO_s, ofO_n, br_t, br_f, sat_ok, sat_bad, sat_ite, tupR, lstR, lstCR, tbR, isTR, isCR, someR, itR,
      plainL, frz, seqOf, opIx, opSub, opMul, opDiv, opMod, opPow18, opNeg, opAdd, lstOf, eqS, opEqS, opNeS, opEqG, opNeG, opLt, opLe, opGt, opGe, isN, opIs, opIsNot, isC, attr, tru, truO_bl, truO_int, truO_tup, truO_lst, truO_non, gLen, gAbs, gMax2, gMin2, gInt, gStr, lsOf, gTuple, gList, gListC, gMax1, gSum, gSort, gAny, gAll, intsL_map, boolsL_map, intsL, boolsL, Option.bind_some, Option.map_some, tyOf, isT, slc, opO, unO, gNm, gNil, gCons, gTp, uns, setIx, W.lowB, setAt, app, isLc, itemsOf, rg1, rg2, rg3, zipO, revO, enumO, tyS, ofP, putL, gPop, gExtend, gSIndex, gSFind, gSJoin, gInsert, gBool, lstW, eqO, okT, mv, cutR_d, atI_0, atI_1, atI_2, atI_3, atI_4, atI_5, atI_6, atI_7, ixN_0, ixN_1, ixN_2, ixN_3, ixN_4, ixN_5, ixN_6, ixN_7,
      List.getElem?_cons_zero, List.getElem?_cons_succ, List.set_cons_zero, List.set_cons_succ, List.getElem?_nil, List.length_cons, List.length_nil, List.length_append, List.length_set, List.length_map, List.map_cons, List.map_nil, List.map_append, List.append_nil, List.nil_append, List.cons_append, List.replicate, Option.some.injEq, dec_t, if_true, if_false, ite_true, ite_false, reduceIte, reduceCtorEq, Nat.reduceSub, Nat.reduceAdd, Nat.reduceLT, Nat.reduceLeDiff, Nat.reduceEqDiff, Int.reduceEq, Int.reduceNe, Int.reduceLE, Int.reduceLT, Int.reduceAdd, Int.reduceSub, Int.reduceMul, Int.reduceNeg, Bool.false_eq_true, Bool.not_eq_true', Bool.not_true, Bool.not_false, decide_true, decide_false, beq_self_eq_true, ne_eq, not_true_eq_false, not_false_eq_true, true_and, and_true, and_self, false_and, and_false, $xs,*])
local macro_rules
  | `(tactic| simp!) => `(tactic| simp (config := { dsimp := false, implicitDefEqProofs := false }) only [↓rs_pass, ↓rs_for, ↓dComp_sat, ↓dCompC_sat, ↓dComp2_sat, ↓comp_nil, ↓comp_cons, plainL_map, ↓br_t, ↓br_f, ↓sat_ok, ↓sat_bad, ↓sat_ite, ↓GV_s, ↓ofO_s, ↓ofO_n,
      ↓s_var, ↓s_c, ↓s_op, ↓s_un, ↓s_nil, ↓s_cons, ↓s_tup, ↓s_lst, ↓s_lstC, ↓s_frz, ↓s_call, ↓s_meth, ↓s_mk, ↓s_mkK, ↓s_attr, ↓s_tr, ↓s_tb, ↓s_and, ↓s_or, ↓s_not, ↓s_andV, ↓s_orV, ↓s_notV, ↓s_ifE, ↓s_chain, ↓s_B, ↓s_isT, ↓s_isC, ↓s_none, ↓s_some, ↓s_sl, ↓s_app, ↓s_any, ↓s_r1, ↓s_r2, ↓s_r3, ↓s_zip, ↓s_rev, ↓s_enum, ↓s_bm, ↓s_callO, ↓s_prop, ↓s_yes,
      ↓q_expr, ↓q_ret, ↓q_retN, ↓q_if, ↓q_break, ↓q_cont, ↓q_never, ↓q_asg, ↓q_par, ↓q_aug, ↓q_sub, ↓q_fld, ↓q_frz, ↓q_frz2, ↓q_mv, ↓q_while,
      GV_s, ofO_s, ofO_n, br_t, br_f, sat_ok, sat_bad, sat_ite, tupR, lstR, lstCR, tbR, isTR, isCR, someR, itR,
      plainL, frz, seqOf, opIx, opSub, opMul, opDiv, opMod, opPow18, opNeg, opAdd, lstOf, eqS, opEqS, opNeS, opEqG, opNeG, opLt, opLe, opGt, opGe, isN, opIs, opIsNot, isC, attr, tru, truO_bl, truO_int, truO_tup, truO_lst, truO_non, gLen, gAbs, gMax2, gMin2, gInt, gStr, lsOf, gTuple, gList, gListC, gMax1, gSum, gSort, gAny, gAll, intsL_map, boolsL_map, intsL, boolsL, Option.bind_some, Option.map_some, tyOf, isT, slc, opO, unO, gNm, gNil, gCons, gTp, uns, setIx, W.lowB, setAt, app, isLc, itemsOf, rg1, rg2, rg3, zipO, revO, enumO, tyS, ofP, putL, gPop, gExtend, gSIndex, gSFind, gSJoin, gInsert, gBool, lstW, eqO, okT, mv, cutR_d, atI_0, atI_1, atI_2, atI_3, atI_4, atI_5, atI_6, atI_7, ixN_0, ixN_1, ixN_2, ixN_3, ixN_4, ixN_5, ixN_6, ixN_7,
      List.getElem?_cons_zero, List.getElem?_cons_succ, List.set_cons_zero, List.set_cons_succ, List.getElem?_nil, List.length_cons, List.length_nil, List.length_append, List.length_set, List.length_map, List.map_cons, List.map_nil, List.map_append, List.append_nil, List.nil_append, List.cons_append, List.replicate, Option.some.injEq, dec_t, if_true, if_false, ite_true, ite_false, reduceIte, reduceCtorEq, Nat.reduceSub, Nat.reduceAdd, Nat.reduceLT, Nat.reduceLeDiff, Nat.reduceEqDiff, Int.reduceEq, Int.reduceNe, Int.reduceLE, Int.reduceLT, Int.reduceAdd, Int.reduceSub, Int.reduceMul, Int.reduceNeg, Bool.false_eq_true, Bool.not_eq_true', Bool.not_true, Bool.not_false, decide_true, decide_false, beq_self_eq_true, ne_eq, not_true_eq_false, not_false_eq_true, true_and, and_true, and_self, false_and, and_false])
local macro_rules
  | `(tactic| dsimp! [$xs,*]) => `(tactic| simp (config := { dsimp := false, implicitDefEqProofs := false }) only [↓rs_seq, ↓rs_pass, ↓rs_for, ↓dComp_sat, ↓dCompC_sat, ↓dComp2_sat, ↓comp_nil, ↓comp_cons, plainL_map, ↓br_t, ↓br_f, ↓sat_ok, ↓sat_bad, ↓sat_ite, ↓GV_s, ↓ofO_s, ↓ofO_n,
      ↓s_var, ↓s_c, ↓s_op, ↓s_un, ↓s_nil, ↓s_cons, ↓s_tup, ↓s_lst, ↓s_lstC, ↓s_frz, ↓s_call, ↓s_meth, ↓s_mk, ↓s_mkK, ↓s_attr, ↓s_tr, ↓s_tb, ↓s_and, ↓s_or, ↓s_not, ↓s_andV, ↓s_orV, ↓s_notV, ↓s_ifE, ↓s_chain, ↓s_B, ↓s_isT, ↓s_isC, ↓s_none, ↓s_some, ↓s_sl, ↓s_app, ↓s_any, ↓s_r1, ↓s_r2, ↓s_r3, ↓s_zip, ↓s_rev, ↓s_enum, ↓s_bm, ↓s_callO, ↓s_prop, ↓s_yes,
      ↓q_expr, ↓q_ret, ↓q_retN, ↓q_if, ↓q_break, ↓q_cont, ↓q_never, ↓q_asg, ↓q_par, ↓q_aug, ↓q_sub, ↓q_fld, ↓q_frz, ↓q_frz2, ↓q_mv, ↓q_while,
      GV_s, ofO_s, ofO_n, br_t, br_f, sat_ok, sat_bad, sat_ite, tupR, lstR, lstCR, tbR, isTR, isCR, someR, itR,
      plainL, frz, seqOf, opIx, opSub, opMul, opDiv, opMod, opPow18, opNeg, opAdd, lstOf, eqS, opEqS, opNeS, opEqG, opNeG, opLt, opLe, opGt, opGe, isN, opIs, opIsNot, isC, attr, tru, truO_bl, truO_int, truO_tup, truO_lst, truO_non, gLen, gAbs, gMax2, gMin2, gInt, gStr, lsOf, gTuple, gList, gListC, gMax1, gSum, gSort, gAny, gAll, intsL_map, boolsL_map, intsL, boolsL, Option.bind_some, Option.map_some, tyOf, isT, slc, opO, unO, gNm, gNil, gCons, gTp, uns, setIx, W.lowB, setAt, app, isLc, itemsOf, rg1, rg2, rg3, zipO, revO, enumO, tyS, ofP, putL, gPop, gExtend, gSIndex, gSFind, gSJoin, gInsert, gBool, lstW, eqO, okT, mv, cutR_d, atI_0, atI_1, atI_2, atI_3, atI_4, atI_5, atI_6, atI_7, ixN_0, ixN_1, ixN_2, ixN_3, ixN_4, ixN_5, ixN_6, ixN_7,
      List.getElem?_cons_zero, List.getElem?_cons_succ, List.set_cons_zero, List.set_cons_succ, List.getElem?_nil, List.length_cons, List.length_nil, List.length_append, List.length_set, List.length_map, List.map_cons, List.map_nil, List.map_append, List.append_nil, List.nil_append, List.cons_append, List.replicate, Option.some.injEq, dec_t, if_true, if_false, ite_true, ite_false, reduceIte, reduceCtorEq, Nat.reduceSub, Nat.reduceAdd, Nat.reduceLT, Nat.reduceLeDiff, Nat.reduceEqDiff, Int.reduceEq, Int.reduceNe, Int.reduceLE, Int.reduceLT, Int.reduceAdd, Int.reduceSub, Int.reduceMul, Int.reduceNeg, Bool.false_eq_true, Bool.not_eq_true', Bool.not_true, Bool.not_false, decide_true, decide_false, beq_self_eq_true, ne_eq, not_true_eq_false, not_false_eq_true, true_and, and_true, and_self, false_and, and_false, $xs,*])
local macro_rules
  | `(tactic| dsimp!) => `(tactic| simp (config := { dsimp := false, implicitDefEqProofs := false }) only [↓rs_seq, ↓rs_pass, ↓rs_for, ↓dComp_sat, ↓dCompC_sat, ↓dComp2_sat, ↓comp_nil, ↓comp_cons, plainL_map, ↓br_t, ↓br_f, ↓sat_ok, ↓sat_bad, ↓sat_ite, ↓GV_s, ↓ofO_s, ↓ofO_n,
      ↓s_var, ↓s_c, ↓s_op, ↓s_un, ↓s_nil, ↓s_cons, ↓s_tup, ↓s_lst, ↓s_lstC, ↓s_frz, ↓s_call, ↓s_meth, ↓s_mk, ↓s_mkK, ↓s_attr, ↓s_tr, ↓s_tb, ↓s_and, ↓s_or, ↓s_not, ↓s_andV, ↓s_orV, ↓s_notV, ↓s_ifE, ↓s_chain, ↓s_B, ↓s_isT, ↓s_isC, ↓s_none, ↓s_some, ↓s_sl, ↓s_app, ↓s_any, ↓s_r1, ↓s_r2, ↓s_r3, ↓s_zip, ↓s_rev, ↓s_enum, ↓s_bm, ↓s_callO, ↓s_prop, ↓s_yes,
      ↓q_expr, ↓q_ret, ↓q_retN, ↓q_if, ↓q_break, ↓q_cont, ↓q_never, ↓q_asg, ↓q_par, ↓q_aug, ↓q_sub, ↓q_fld, ↓q_frz, ↓q_frz2, ↓q_mv, ↓q_while,
      GV_s, ofO_s, ofO_n, br_t, br_f, sat_ok, sat_bad, sat_ite, tupR, lstR, lstCR, tbR, isTR, isCR, someR, itR,
      plainL, frz, seqOf, opIx, opSub, opMul, opDiv, opMod, opPow18, opNeg, opAdd, lstOf, eqS, opEqS, opNeS, opEqG, opNeG, opLt, opLe, opGt, opGe, isN, opIs, opIsNot, isC, attr, tru, truO_bl, truO_int, truO_tup, truO_lst, truO_non, gLen, gAbs, gMax2, gMin2, gInt, gStr, lsOf, gTuple, gList, gListC, gMax1, gSum, gSort, gAny, gAll, intsL_map, boolsL_map, intsL, boolsL, Option.bind_some, Option.map_some, tyOf, isT, slc, opO, unO, gNm, gNil, gCons, gTp, uns, setIx, W.lowB, setAt, app, isLc, itemsOf, rg1, rg2, rg3, zipO, revO, enumO, tyS, ofP, putL, gPop, gExtend, gSIndex, gSFind, gSJoin, gInsert, gBool, lstW, eqO, okT, mv, cutR_d, atI_0, atI_1, atI_2, atI_3, atI_4, atI_5, atI_6, atI_7, ixN_0, ixN_1, ixN_2, ixN_3, ixN_4, ixN_5, ixN_6, ixN_7,
      List.getElem?_cons_zero, List.getElem?_cons_succ, List.set_cons_zero, List.set_cons_succ, List.getElem?_nil, List.length_cons, List.length_nil, List.length_append, List.length_set, List.length_map, List.map_cons, List.map_nil, List.map_append, List.append_nil, List.nil_append, List.cons_append, List.replicate, Option.some.injEq, dec_t, if_true, if_false, ite_true, ite_false, reduceIte, reduceCtorEq, Nat.reduceSub, Nat.reduceAdd, Nat.reduceLT, Nat.reduceLeDiff, Nat.reduceEqDiff, Int.reduceEq, Int.reduceNe, Int.reduceLE, Int.reduceLT, Int.reduceAdd, Int.reduceSub, Int.reduceMul, Int.reduceNeg, Bool.false_eq_true, Bool.not_eq_true', Bool.not_true, Bool.not_false, decide_true, decide_false, beq_self_eq_true, ne_eq, not_true_eq_false, not_false_eq_true, true_and, and_true, and_self, false_and, and_false])
local macro_rules
  | `(tactic| simp_all! [$xs,*]) => `(tactic| (rw [rs_seq]; simp! [$xs,*]))
local macro_rules
  | `(tactic| simp_all!) => `(tactic| (rw [rs_seq]; simp!))

namespace Lw
open PySem PySem.Spec PyProof.Rows L2 Py
abbrev i_shared_part : Nat := 0
abbrev i_Ratio___init__ : Nat := 1
abbrev i_Ratio___add__ : Nat := 2
abbrev i_Ratio___sub__ : Nat := 3
abbrev i_Ratio___mul__ : Nat := 4
abbrev i_Ratio___neg__ : Nat := 5
abbrev i_Ratio___eq__ : Nat := 6
abbrev i_Ratio___bool__ : Nat := 7
abbrev i_Ratio_is_less : Nat := 8
abbrev i_Ratio_is_whole : Nat := 9
abbrev i_Ratio_text : Nat := 10
abbrev i__law_feed : Nat := 11
abbrev i__law_draw : Nat := 12
abbrev i__law_great : Nat := 13
abbrev i__law_pair : Nat := 14
abbrev i__law_fraction : Nat := 15
abbrev i__law_text : Nat := 16
abbrev i__law_told : Nat := 17
abbrev i__law_alone : Nat := 18
abbrev i_law : Nat := 19
abbrev L_nm : List (Nat × Str × Nat) := [(i_shared_part, ("shared_part" : Str), 2), (i__law_feed, ("_law_feed" : Str), 1), (i__law_draw, ("_law_draw" : Str), 2), (i__law_great, ("_law_great" : Str), 2), (i__law_pair, ("_law_pair" : Str), 2), (i__law_fraction, ("_law_fraction" : Str), 2), (i__law_text, ("_law_text" : Str), 1), (i__law_told, ("_law_told" : Str), 2), (i__law_alone, ("_law_alone" : Str), 2), (i_law, ("law" : Str), 1)]
abbrev L_mt : List (Nat × Nat × Str × Nat) := [(i_Ratio___add__, 0, ("__add__" : Str), 2), (i_Ratio___sub__, 0, ("__sub__" : Str), 2), (i_Ratio___mul__, 0, ("__mul__" : Str), 2), (i_Ratio___neg__, 0, ("__neg__" : Str), 1), (i_Ratio___eq__, 0, ("__eq__" : Str), 2), (i_Ratio___bool__, 0, ("__bool__" : Str), 1), (i_Ratio_is_less, 0, ("is_less" : Str), 2), (i_Ratio_text, 0, ("text" : Str), 1)]
abbrev L_ini : List (Nat × Str × Nat × Nat × List (List V)) := [(0, ("Ratio" : Str), i_Ratio___init__, 3, [[]])]
abbrev L_kw : List (Nat × Str × Nat × Nat × Nat × List Str) := []
abbrev L_prop : List (Nat × Nat × Str) := [(i_Ratio_is_whole, 0, ("is_whole" : Str))]
abbrev L_con : List (Str × V) := []
abbrev L_cn : List (Str × Nat) := [(("Ratio" : Str), 0)]
def SG : Sg where
  fl := fun c => ([(0, [("top" : Str), ("bottom" : Str)])] : List (Nat × List Str)).lookup c |>.getD []
  nm := fun f => L_nm.lookup f
  mt := fun f => L_mt.lookup f
  ini := fun c => L_ini.lookup c
  kw := fun c => L_kw.lookup c
  prop := fun f => L_prop.lookup f
  blt := fun x => ([("abs" : Str), ("bool" : Str), ("int" : Str), ("isinstance" : Str), ("len" : Str), ("max" : Str), ("range" : Str), ("str" : Str)] : List Str).contains x
  con := fun x => L_con.lookup x
  cn := fun x => L_cn.lookup x
  sub := fun a b => a == b
noncomputable def c_shared_part (F Fi : FnTab) : DS := (sSeq (sWhile WF [] (dTb (dOp opNeG (dVar 1) (dC (.int 0)))) (sPar 0 1 (dVar 1) (dOp opMod (dVar 0) (dVar 1)))) (sRet (dVar 0)))
noncomputable def c_Ratio___init__ (F Fi : FnTab) : DS := (sSeq (sIf (dTb (dOp (eqO F 0 i_Ratio___eq__ opEqG) (dVar 2) (dC (.int 0)))) sNever sPass) (sSeq (sIf (dTb (dOp opLt (dVar 2) (dC (.int 0)))) (sPar 1 2 (dUn (unO F 0 i_Ratio___neg__ opNeg) (dVar 1)) (dUn (unO F 0 i_Ratio___neg__ opNeg) (dVar 2))) sPass) (sSeq (sAsg (dCall F i_shared_part 2 (dCons (dB gAbs (dCons (dVar 1) dNil)) (dCons (dVar 2) dNil))) (gNm 3)) (sSeq (sFldD 0 0 (dOp opDiv (dVar 1) (dVar 3)) (dVar 0)) (sFldD 0 1 (dOp opDiv (dVar 2) (dVar 3)) (dVar 0))))))
noncomputable def c_Ratio___add__ (F Fi : FnTab) : DS := (sRet (dMk (mkF Fi 0 i_Ratio___init__ 3 2) [] (dCons (dOp (opO F 0 i_Ratio___add__ opAdd) (dOp (opO F 0 i_Ratio___mul__ opMul) (dAttr 0 0 (dVar 0)) (dAttr 0 1 (dVar 1))) (dOp (opO F 0 i_Ratio___mul__ opMul) (dAttr 0 0 (dVar 1)) (dAttr 0 1 (dVar 0)))) (dCons (dOp (opO F 0 i_Ratio___mul__ opMul) (dAttr 0 1 (dVar 0)) (dAttr 0 1 (dVar 1))) dNil))))
noncomputable def c_Ratio___sub__ (F Fi : FnTab) : DS := (sRet (dMk (mkF Fi 0 i_Ratio___init__ 3 2) [] (dCons (dOp (opO F 0 i_Ratio___sub__ opSub) (dOp (opO F 0 i_Ratio___mul__ opMul) (dAttr 0 0 (dVar 0)) (dAttr 0 1 (dVar 1))) (dOp (opO F 0 i_Ratio___mul__ opMul) (dAttr 0 0 (dVar 1)) (dAttr 0 1 (dVar 0)))) (dCons (dOp (opO F 0 i_Ratio___mul__ opMul) (dAttr 0 1 (dVar 0)) (dAttr 0 1 (dVar 1))) dNil))))
noncomputable def c_Ratio___mul__ (F Fi : FnTab) : DS := (sRet (dMk (mkF Fi 0 i_Ratio___init__ 3 2) [] (dCons (dOp (opO F 0 i_Ratio___mul__ opMul) (dAttr 0 0 (dVar 0)) (dAttr 0 0 (dVar 1))) (dCons (dOp (opO F 0 i_Ratio___mul__ opMul) (dAttr 0 1 (dVar 0)) (dAttr 0 1 (dVar 1))) dNil))))
noncomputable def c_Ratio___neg__ (F Fi : FnTab) : DS := (sRet (dMk (mkF Fi 0 i_Ratio___init__ 3 2) [] (dCons (dUn (unO F 0 i_Ratio___neg__ opNeg) (dAttr 0 0 (dVar 0))) (dCons (dAttr 0 1 (dVar 0)) dNil))))
noncomputable def c_Ratio___eq__ (F Fi : FnTab) : DS := (sRet (dAndV (dIsC SG.sub 0 (dVar 1)) (dAndV (dOp (eqO F 0 i_Ratio___eq__ opEqG) (dAttr 0 0 (dVar 0)) (dAttr 0 0 (dVar 1))) (dOp (eqO F 0 i_Ratio___eq__ opEqG) (dAttr 0 1 (dVar 0)) (dAttr 0 1 (dVar 1))))))
noncomputable def c_Ratio___bool__ (F Fi : FnTab) : DS := (sRet (dOp opNeG (dAttr 0 0 (dVar 0)) (dC (.int 0))))
noncomputable def c_Ratio_is_less (F Fi : FnTab) : DS := (sRet (dOp opLt (dOp (opO F 0 i_Ratio___mul__ opMul) (dAttr 0 0 (dVar 0)) (dAttr 0 1 (dVar 1))) (dOp (opO F 0 i_Ratio___mul__ opMul) (dAttr 0 0 (dVar 1)) (dAttr 0 1 (dVar 0)))))
noncomputable def c_Ratio_is_whole (F Fi : FnTab) : DS := (sRet (dOp (eqO F 0 i_Ratio___eq__ opEqG) (dAttr 0 1 (dVar 0)) (dC (.int 1))))
noncomputable def c_Ratio_text (F Fi : FnTab) : DS := (sSeq (sIf (dTb (dOp (eqO F 0 i_Ratio___eq__ opEqG) (dAttr 0 1 (dVar 0)) (dC (.int 1)))) (sRet (dB gStr (dCons (dAttr 0 0 (dVar 0)) dNil))) sPass) (sRet (dOp (opO F 0 i_Ratio___add__ opAdd) (dOp (opO F 0 i_Ratio___add__ opAdd) (dB gStr (dCons (dAttr 0 0 (dVar 0)) dNil)) (dC (.str "/"))) (dB gStr (dCons (dAttr 0 1 (dVar 0)) dNil)))))
noncomputable def c__law_feed (F Fi : FnTab) : DS := (sRet (dLstC (dCons (dComp [1] (gNm 1) (iAny (dSl (dVar 0) oNone (oSome (dC (.int 63))))) tYesD (dB gAbs (dCons (dVar 1) dNil))) (dCons (dC (.int 0)) (dCons (dC (.int 0)) (dCons (dOp (opO F 0 i_Ratio___add__ opAdd) (dC (.int 7)) (dB gLen (dCons (dVar 0) dNil))) dNil))))))
noncomputable def c__law_draw (F Fi : FnTab) : DS := (sSeq (sAsg (dOp opIx (dVar 0) (dC (.int 0))) (gNm 2)) (sSeq (sIf (dAnd (dTb (dOp (eqO F 0 i_Ratio___eq__ opEqG) (dOp opIx (dVar 0) (dC (.int 2))) (dC (.int 0)))) (dTb (dOp opLt (dOp opIx (dVar 0) (dC (.int 1))) (dB gLen (dCons (dVar 2) dNil))))) (sSeq (sAsg (dOp opIx (dVar 2) (dOp opIx (dVar 0) (dC (.int 1)))) (gNm 3)) (sSeq (sSub (dOp (opO F 0 i_Ratio___add__ opAdd) (dOp opIx (dVar 0) (dC (.int 1))) (dC (.int 1))) (dVar 0) (dC (.int 1))) (sIf (dTb (dOp opGe (dVar 3) (dOp opPow (dC (.int 10)) (dC (.int 18))))) (sSub (dVar 3) (dVar 0) (dC (.int 2))) (sSub (dOp opMod (dB gInt (dCons (dOp (opO F 0 i_Ratio___add__ opAdd) (dOp (opO F 0 i_Ratio___add__ opAdd) (dOp (opO F 0 i_Ratio___mul__ opMul) (dOp opIx (dVar 0) (dC (.int 3))) (dC (.int 48271))) (dOp (opO F 0 i_Ratio___mul__ opMul) (dVar 3) (dC (.int 69621)))) (dC (.int 11))) dNil)) (dC (.int 2147483647))) (dVar 0) (dC (.int 3)))))) sPass) (sSeq (sIf (dTb (dOp opGt (dOp opIx (dVar 0) (dC (.int 2))) (dC (.int 0)))) (sSeq (sAsg (dOp opMod (dB gInt (dCons (dOp opIx (dVar 0) (dC (.int 2))) dNil)) (dVar 1)) (gNm 4)) (sSeq (sSub (dOp opDiv (dOp opIx (dVar 0) (dC (.int 2))) (dVar 1)) (dVar 0) (dC (.int 2))) (sRet (dVar 4)))) sPass) (sSeq (sSub (dOp opMod (dB gInt (dCons (dOp (opO F 0 i_Ratio___add__ opAdd) (dOp (opO F 0 i_Ratio___mul__ opMul) (dOp opIx (dVar 0) (dC (.int 3))) (dC (.int 16807))) (dC (.int 12345))) dNil)) (dC (.int 2147483629))) (dVar 0) (dC (.int 3))) (sRet (dOp opMod (dB gInt (dCons (dOp (opO F 0 i_Ratio___add__ opAdd) (dOp opDiv (dOp (opO F 0 i_Ratio___mul__ opMul) (dOp opIx (dVar 0) (dC (.int 3))) (dOp opIx (dVar 0) (dC (.int 3)))) (dC (.int 1024))) (dOp opDiv (dOp opIx (dVar 0) (dC (.int 3))) (dC (.int 65536)))) dNil)) (dVar 1)))))))
noncomputable def c__law_great (F Fi : FnTab) : DS := (sSeq (sAsg (dC (.int 0)) (gNm 2)) (sSeq (sFor [1, 3] (gNm 3) (iRange1 (dVar 1)) (sAsg (dOp (opO F 0 i_Ratio___add__ opAdd) (dOp (opO F 0 i_Ratio___mul__ opMul) (dVar 2) (dC (.int 100000))) (dCall F i__law_draw 2 (dCons (dVar 0) (dCons (dC (.int 100000)) dNil)))) (gNm 2))) (sRet (dVar 2))))
noncomputable def c__law_pair (F Fi : FnTab) : DS := (sSeq (sAsg (dB gAbs (dCons (dVar 0) dNil)) (gNm 2)) (sSeq (sAsg (dB gAbs (dCons (dVar 1) dNil)) (gNm 3)) (sSeq (sWhile WF [] (dTb (dOp opGt (dVar 3) (dC (.int 0)))) (sPar 2 3 (dVar 3) (dOp opMod (dB gInt (dCons (dVar 2) dNil)) (dVar 3)))) (sSeq (sIf (dTb (dOp opLt (dVar 1) (dC (.int 0)))) (sAsg (dOp (opO F 0 i_Ratio___sub__ opSub) (dC (.int 0)) (dVar 2)) (gNm 2)) sPass) (sRet (dTup (dCons (dOp opDiv (dVar 0) (dVar 2)) (dCons (dOp opDiv (dVar 1) (dVar 2)) dNil))))))))
noncomputable def c__law_fraction (F Fi : FnTab) : DS := (sSeq (sAsg (dOp (opO F 0 i_Ratio___sub__ opSub) (dCall F i__law_draw 2 (dCons (dVar 0) (dCons (dC (.int 41)) dNil))) (dC (.int 20))) (gNm 2)) (sSeq (sAsg (dOp (opO F 0 i_Ratio___add__ opAdd) (dC (.int 1)) (dCall F i__law_draw 2 (dCons (dVar 0) (dCons (dC (.int 12)) dNil)))) (gNm 3)) (sSeq (sAsg (dCall F i__law_draw 2 (dCons (dVar 0) (dCons (dC (.int 4)) dNil))) (gNm 4)) (sSeq (sIf (dTb (dOp opGt (dVar 4) (dC (.int 1)))) (sAsg (dOp (opO F 0 i_Ratio___mul__ opMul) (dCall F i__law_great 2 (dCons (dVar 0) (dCons (dVar 1) dNil))) (dOp (opO F 0 i_Ratio___sub__ opSub) (dC (.int 1)) (dOp (opO F 0 i_Ratio___mul__ opMul) (dC (.int 2)) (dCall F i__law_draw 2 (dCons (dVar 0) (dCons (dC (.int 2)) dNil)))))) (gNm 2)) sPass) (sSeq (sIf (dTb (dOp (eqO F 0 i_Ratio___eq__ opEqG) (dVar 4) (dC (.int 3)))) (sAsg (dB gMax2 (dCons (dC (.int 1)) (dCons (dCall F i__law_great 2 (dCons (dVar 0) (dCons (dVar 1) dNil))) dNil))) (gNm 3)) sPass) (sRet (dTup (dCons (dVar 2) (dCons (dVar 3) dNil)))))))))
noncomputable def c__law_text (F Fi : FnTab) : DS := (sSeq (sIf (dTb (dOp (eqO F 0 i_Ratio___eq__ opEqG) (dOp opIx (dVar 0) (dC (.int 1))) (dC (.int 1)))) (sRet (dB gStr (dCons (dOp opIx (dVar 0) (dC (.int 0))) dNil))) sPass) (sRet (dOp (opO F 0 i_Ratio___add__ opAdd) (dOp (opO F 0 i_Ratio___add__ opAdd) (dB gStr (dCons (dOp opIx (dVar 0) (dC (.int 0))) dNil)) (dC (.str "/"))) (dB gStr (dCons (dOp opIx (dVar 0) (dC (.int 1))) dNil)))))
noncomputable def c__law_told (F Fi : FnTab) : DS := (sRet (dAndV (dIsT Ty.bl (dVar 0)) (dOp (eqO F 0 i_Ratio___eq__ opEqG) (dVar 0) (dVar 1))))
noncomputable def c__law_alone (F Fi : FnTab) : DS := (sSeq (sAsg (dMeth F 0 i_Ratio_text 1 (dVar 0) dNil) (gNm 2)) (sSeq (sIf (dOr (dNot (dTr (truO F 0 i_Ratio___bool__) (dIsT Ty.str (dVar 2)))) (dTb (dOp opNeG (dVar 2) (dCall F i__law_text 1 (dCons (dVar 1) dNil))))) (sRet (dC (.bl false))) sPass) (sSeq (sIf (dOr (dNot (dTr (truO F 0 i_Ratio___bool__) (dCall F i__law_told 2 (dCons (dProp Fi 0 i_Ratio_is_whole (dVar 0)) (dCons (dOp (eqO F 0 i_Ratio___eq__ opEqG) (dOp opIx (dVar 1) (dC (.int 1))) (dC (.int 1))) dNil))))) (dTb (dOp opNeG (dB (gBoolO Fi 0 i_Ratio___bool__) (dCons (dVar 0) dNil)) (dOp opNeG (dOp opIx (dVar 1) (dC (.int 0))) (dC (.int 0)))))) (sRet (dC (.bl false))) sPass) (sSeq (sFor [1, 2, 3] (gNm 3) (iAny (dLst (dCons (dOp opIx (dVar 1) (dC (.int 0))) (dCons (dVar 1) (dCons (dCall F i__law_text 1 (dCons (dVar 1) dNil)) (dCons (dC .non) (dCons (dLst (dCons (dOp opIx (dVar 1) (dC (.int 0))) (dCons (dOp opIx (dVar 1) (dC (.int 1))) dNil))) dNil))))))) (sIf (dNot (dTr (truO F 0 i_Ratio___bool__) (dCall F i__law_told 2 (dCons (dOp (eqO F 0 i_Ratio___eq__ opEqG) (dVar 0) (dVar 3)) (dCons (dC (.bl false)) dNil))))) (sRet (dC (.bl false))) sPass)) (sRet (dC (.bl true)))))))
noncomputable def c_law (F Fi : FnTab) : DS := (sSeq (sAsg (dCall F i__law_feed 1 (dCons (dVar 0) dNil)) (gNm 1)) (sSeq (sAsg (dOp opIx (dLst (dCons (dC (.int 1)) (dCons (dC (.int 4)) (dCons (dC (.int 59)) dNil)))) (dCall F i__law_draw 2 (dCons (dVar 1) (dCons (dC (.int 3)) dNil)))) (gNm 2)) (sSeq (sAsg (dCall F i__law_fraction 2 (dCons (dVar 1) (dCons (dVar 2) dNil))) (gNm 3)) (sSeq (sAsg (dCall F i__law_fraction 2 (dCons (dVar 1) (dCons (dVar 2) dNil))) (gNm 4)) (sSeq (sAsg (dCall F i__law_draw 2 (dCons (dVar 1) (dCons (dC (.int 6)) dNil))) (gNm 5)) (sSeq (sIf (dTb (dOp opLt (dVar 5) (dC (.int 4)))) (sAsg (dOp opIx (dLst (dCons (dVar 3) (dCons (dTup (dCons (dOp (opO F 0 i_Ratio___sub__ opSub) (dC (.int 0)) (dOp opIx (dVar 3) (dC (.int 0)))) (dCons (dOp opIx (dVar 3) (dC (.int 1))) dNil))) (dCons (dTup (dCons (dOp (opO F 0 i_Ratio___add__ opAdd) (dOp opIx (dVar 3) (dC (.int 0))) (dC (.int 1))) (dCons (dOp opIx (dVar 3) (dC (.int 1))) dNil))) (dCons (dTup (dCons (dOp (opO F 0 i_Ratio___sub__ opSub) (dOp opIx (dVar 3) (dC (.int 0))) (dC (.int 1))) (dCons (dOp opIx (dVar 3) (dC (.int 1))) dNil))) dNil))))) (dVar 5)) (gNm 4)) sPass) (sSeq (sAsg (dCall F i__law_pair 2 (dCons (dOp opIx (dVar 3) (dC (.int 0))) (dCons (dOp opIx (dVar 3) (dC (.int 1))) dNil))) (gNm 6)) (sSeq (sAsg (dCall F i__law_pair 2 (dCons (dOp opIx (dVar 4) (dC (.int 0))) (dCons (dOp opIx (dVar 4) (dC (.int 1))) dNil))) (gNm 7)) (sSeq (sAsg (dMk (mkF Fi 0 i_Ratio___init__ 3 2) [] (dCons (dOp opIx (dVar 3) (dC (.int 0))) (dCons (dOp opIx (dVar 3) (dC (.int 1))) dNil))) (gNm 8)) (sSeq (sAsg (dMk (mkF Fi 0 i_Ratio___init__ 3 2) [] (dCons (dOp opIx (dVar 4) (dC (.int 0))) (dCons (dOp opIx (dVar 4) (dC (.int 1))) dNil))) (gNm 9)) (sSeq (sFor [0, 1, 2, 3, 4, 5, 10] (gNm 10) (iRange1 (dC (.int 2))) (sSeq (sIf (dOr (dNot (dTr (truO F 0 i_Ratio___bool__) (dCall F i__law_alone 2 (dCons (dVar 8) (dCons (dVar 6) dNil))))) (dNot (dTr (truO F 0 i_Ratio___bool__) (dCall F i__law_alone 2 (dCons (dVar 9) (dCons (dVar 7) dNil)))))) (sRet (dC (.bl false))) sPass) (sSeq (sIf (dOr (dNot (dTr (truO F 0 i_Ratio___bool__) (dCall F i__law_told 2 (dCons (dOp (eqO F 0 i_Ratio___eq__ opEqG) (dVar 8) (dVar 9)) (dCons (dOp (eqO F 0 i_Ratio___eq__ opEqG) (dVar 6) (dVar 7)) dNil))))) (dNot (dTr (truO F 0 i_Ratio___bool__) (dCall F i__law_told 2 (dCons (dOp (eqO F 0 i_Ratio___eq__ opEqG) (dVar 9) (dVar 8)) (dCons (dOp (eqO F 0 i_Ratio___eq__ opEqG) (dVar 6) (dVar 7)) dNil)))))) (sRet (dC (.bl false))) sPass) (sSeq (sIf (dNot (dTr (truO F 0 i_Ratio___bool__) (dCall F i__law_told 2 (dCons (dMeth F 0 i_Ratio_is_less 2 (dVar 8) (dCons (dVar 9) dNil)) (dCons (dOp opLt (dOp (opO F 0 i_Ratio___mul__ opMul) (dOp opIx (dVar 6) (dC (.int 0))) (dOp opIx (dVar 7) (dC (.int 1)))) (dOp (opO F 0 i_Ratio___mul__ opMul) (dOp opIx (dVar 7) (dC (.int 0))) (dOp opIx (dVar 6) (dC (.int 1))))) dNil))))) (sRet (dC (.bl false))) sPass) (sSeq (sIf (dNot (dTr (truO F 0 i_Ratio___bool__) (dCall F i__law_told 2 (dCons (dMeth F 0 i_Ratio_is_less 2 (dVar 9) (dCons (dVar 8) dNil)) (dCons (dOp opLt (dOp (opO F 0 i_Ratio___mul__ opMul) (dOp opIx (dVar 7) (dC (.int 0))) (dOp opIx (dVar 6) (dC (.int 1)))) (dOp (opO F 0 i_Ratio___mul__ opMul) (dOp opIx (dVar 6) (dC (.int 0))) (dOp opIx (dVar 7) (dC (.int 1))))) dNil))))) (sRet (dC (.bl false))) sPass) (sIf (dOr (dNot (dTr (truO F 0 i_Ratio___bool__) (dCall F i__law_told 2 (dCons (dMeth F 0 i_Ratio_is_less 2 (dVar 8) (dCons (dVar 8) dNil)) (dCons (dC (.bl false)) dNil))))) (dNot (dTr (truO F 0 i_Ratio___bool__) (dCall F i__law_told 2 (dCons (dOp (eqO F 0 i_Ratio___eq__ opEqG) (dVar 8) (dVar 8)) (dCons (dC (.bl true)) dNil)))))) (sRet (dC (.bl false))) sPass)))))) (sRet (dC (.bl true))))))))))))))
noncomputable def DEFS : List Def := [⟨i_shared_part, 2, 2, c_shared_part⟩, ⟨i_Ratio___init__, 3, 4, c_Ratio___init__⟩, ⟨i_Ratio___add__, 2, 2, c_Ratio___add__⟩, ⟨i_Ratio___sub__, 2, 2, c_Ratio___sub__⟩, ⟨i_Ratio___mul__, 2, 2, c_Ratio___mul__⟩, ⟨i_Ratio___neg__, 1, 1, c_Ratio___neg__⟩, ⟨i_Ratio___eq__, 2, 2, c_Ratio___eq__⟩, ⟨i_Ratio___bool__, 1, 1, c_Ratio___bool__⟩, ⟨i_Ratio_is_less, 2, 2, c_Ratio_is_less⟩, ⟨i_Ratio_is_whole, 1, 1, c_Ratio_is_whole⟩, ⟨i_Ratio_text, 1, 1, c_Ratio_text⟩, ⟨i__law_feed, 1, 2, c__law_feed⟩, ⟨i__law_draw, 2, 5, c__law_draw⟩, ⟨i__law_great, 2, 4, c__law_great⟩, ⟨i__law_pair, 2, 4, c__law_pair⟩, ⟨i__law_fraction, 2, 5, c__law_fraction⟩, ⟨i__law_text, 1, 1, c__law_text⟩, ⟨i__law_told, 2, 2, c__law_told⟩, ⟨i__law_alone, 2, 4, c__law_alone⟩, ⟨i_law, 1, 11, c_law⟩]
noncomputable def FT (n : Nat) : FnTab := (tabP DEFS n).1
noncomputable def FI (n : Nat) : FnTab := (tabP DEFS n).2
theorem FT_shared_part (n : Nat) (ws : List W) (S : Sto) : FT (n + 1) i_shared_part ws S = runDef 2 2 (c_shared_part (FT n) (FI n)) ws S := rfl
theorem FT_Ratio___init__ (n : Nat) (ws : List W) (S : Sto) : FT (n + 1) i_Ratio___init__ ws S = runDef 4 3 (c_Ratio___init__ (FT n) (FI n)) ws S := rfl
theorem FT_Ratio___add__ (n : Nat) (ws : List W) (S : Sto) : FT (n + 1) i_Ratio___add__ ws S = runDef 2 2 (c_Ratio___add__ (FT n) (FI n)) ws S := rfl
theorem FT_Ratio___sub__ (n : Nat) (ws : List W) (S : Sto) : FT (n + 1) i_Ratio___sub__ ws S = runDef 2 2 (c_Ratio___sub__ (FT n) (FI n)) ws S := rfl
theorem FT_Ratio___mul__ (n : Nat) (ws : List W) (S : Sto) : FT (n + 1) i_Ratio___mul__ ws S = runDef 2 2 (c_Ratio___mul__ (FT n) (FI n)) ws S := rfl
theorem FT_Ratio___neg__ (n : Nat) (ws : List W) (S : Sto) : FT (n + 1) i_Ratio___neg__ ws S = runDef 1 1 (c_Ratio___neg__ (FT n) (FI n)) ws S := rfl
theorem FT_Ratio___eq__ (n : Nat) (ws : List W) (S : Sto) : FT (n + 1) i_Ratio___eq__ ws S = runDef 2 2 (c_Ratio___eq__ (FT n) (FI n)) ws S := rfl
theorem FT_Ratio___bool__ (n : Nat) (ws : List W) (S : Sto) : FT (n + 1) i_Ratio___bool__ ws S = runDef 1 1 (c_Ratio___bool__ (FT n) (FI n)) ws S := rfl
theorem FT_Ratio_is_less (n : Nat) (ws : List W) (S : Sto) : FT (n + 1) i_Ratio_is_less ws S = runDef 2 2 (c_Ratio_is_less (FT n) (FI n)) ws S := rfl
theorem FT_Ratio_is_whole (n : Nat) (ws : List W) (S : Sto) : FT (n + 1) i_Ratio_is_whole ws S = runDef 1 1 (c_Ratio_is_whole (FT n) (FI n)) ws S := rfl
theorem FT_Ratio_text (n : Nat) (ws : List W) (S : Sto) : FT (n + 1) i_Ratio_text ws S = runDef 1 1 (c_Ratio_text (FT n) (FI n)) ws S := rfl
theorem FT__law_feed (n : Nat) (ws : List W) (S : Sto) : FT (n + 1) i__law_feed ws S = runDef 2 1 (c__law_feed (FT n) (FI n)) ws S := rfl
theorem FT__law_draw (n : Nat) (ws : List W) (S : Sto) : FT (n + 1) i__law_draw ws S = runDef 5 2 (c__law_draw (FT n) (FI n)) ws S := rfl
theorem FT__law_great (n : Nat) (ws : List W) (S : Sto) : FT (n + 1) i__law_great ws S = runDef 4 2 (c__law_great (FT n) (FI n)) ws S := rfl
theorem FT__law_pair (n : Nat) (ws : List W) (S : Sto) : FT (n + 1) i__law_pair ws S = runDef 4 2 (c__law_pair (FT n) (FI n)) ws S := rfl
theorem FT__law_fraction (n : Nat) (ws : List W) (S : Sto) : FT (n + 1) i__law_fraction ws S = runDef 5 2 (c__law_fraction (FT n) (FI n)) ws S := rfl
theorem FT__law_text (n : Nat) (ws : List W) (S : Sto) : FT (n + 1) i__law_text ws S = runDef 1 1 (c__law_text (FT n) (FI n)) ws S := rfl
theorem FT__law_told (n : Nat) (ws : List W) (S : Sto) : FT (n + 1) i__law_told ws S = runDef 2 2 (c__law_told (FT n) (FI n)) ws S := rfl
theorem FT__law_alone (n : Nat) (ws : List W) (S : Sto) : FT (n + 1) i__law_alone ws S = runDef 4 2 (c__law_alone (FT n) (FI n)) ws S := rfl
theorem FT_law (n : Nat) (ws : List W) (S : Sto) : FT (n + 1) i_law ws S = runDef 11 1 (c_law (FT n) (FI n)) ws S := rfl
theorem FI_succ (n : Nat) : FI (n + 1) = FT n := rfl
end Lw
namespace Lw
open PySem PySem.Spec PyProof.Rows L2 Py
structure FeedP (cells : List Int) (a b c : Int) : Prop where
  n : cells.length ≤ 63
  a0 : 0 ≤ a
  b0 : 0 ≤ b
  c0 : 0 ≤ c
  c1 : c < 2147483647
  p : ∀ z ∈ cells, 0 ≤ z
def feedC (cells : List Int) (a b c : Int) : Ce := .lst [.d (.lst (cells.map D.int)), .d (.int a), .d (.int b), .d (.int c)]
def Feed (o : Ce) : Prop := ∃ cells a b c, o = feedC cells a b c ∧ FeedP cells a b c
theorem draw_ok {n i : Nat} {m : Int} {o : Ce} {S : Sto} {Q : W → Sto → Prop} (hn : 1 ≤ n) (ho : S[i]? = some o) (hf : Feed o) (h0 : 0 < m) (h1 : m < 2 ^ 60)
    (h : ∀ r o', 0 ≤ r → r < m → Feed o' → Q (.d (.int r)) (S.set i o')) : (FT n i__law_draw [.c i, .d (.int m)] S).sat Q := by
  obtain ⟨k, rfl⟩ : ∃ k, n = k + 1 := ⟨n - 1, by omega⟩
  obtain ⟨cells, a, b, c, rfl, F⟩ := hf
  have hi : i < S.length := (List.getElem?_eq_some_iff.mp ho).1
  have hm0 : ¬ m = 0 := by omega
  have hmd : ∀ x, Builtin.divisionGoesByPylong x m = false := fun x => divOkS (by omega)
  have g1 : ∀ o' : Ce, (List.set S i o')[i]? = some o' := fun o' => set_get hi
  have m1 : ∀ x, IntMulOk x 48271 := fun x => mulOkR (by decide)
  have m2 : ∀ x, IntMulOk x 69621 := fun x => mulOkR (by decide)
  have m3 : ∀ x, IntMulOk x 16807 := fun x => mulOkR (by decide)
  have d1 : ∀ x, Builtin.divisionGoesByPylong x 1024 = false := fun x => divOkS (by decide)
  have d2 : ∀ x, Builtin.divisionGoesByPylong x 65536 = false := fun x => divOkS (by decide)
  rw [FT__law_draw]
  refine run_sat rfl ?_
  unfold c__law_draw
  simp_all! [ho, feedC]
  refine rs_cut (fun e S1 => ∃ z a b c, e = [some (W.c i), some (W.d (D.int m)), some (W.d (D.lst (List.map D.int cells))), z, none] ∧ S1 = S.set i (feedC cells a b c) ∧ FeedP cells a b c) ?_ ?_
  · have same : ∃ z a' b' c', [some (W.c i), some (W.d (D.int m)), some (W.d (D.lst (List.map D.int cells))), (none : Option W), none] = [some (W.c i), some (W.d (D.int m)), some (W.d (D.lst (List.map D.int cells))), z, none] ∧ S = S.set i (feedC cells a' b' c') ∧ FeedP cells a' b' c' := by
      refine ⟨_, a, b, c, rfl, ?_, F⟩
      exact (set_same ho).symm
    dsimp! [ho, feedC]
    refine br_of (fun hb => ?_) (fun hb => ?_)
    · dsimp! [ho, feedC]
      refine br_of (fun ha => ?_) (fun ha => ?_)
      · obtain ⟨j, rfl⟩ : ∃ j : Nat, a = j := ⟨a.toNat, by have := F.a0; omega⟩
        have hj : j < cells.length := by omega
        have hc : (cells.map D.int |>.map W.d)[j]? = some (W.d (D.int cells[j])) := by simp [hj]
        have hz := F.p cells[j] (List.getElem_mem hj)
        generalize cells[j] = z at hc hz
        simp_all! [ho, feedC, atI_nat hc]
        simp_all! [ho, feedC, g1]
        refine br_of (fun hz1 => ?_) (fun hz1 => ?_)
        · dsimp! [g1, List.set_set]
          exact ⟨_, (j : Int) + 1, z, c, rfl, rfl, ⟨F.n, by omega, hz, F.c0, F.c1, F.p⟩⟩
        · dsimp! [g1, List.set_set, m1, m2]
          exact ⟨_, (j : Int) + 1, b, _, rfl, rfl, ⟨F.n, by omega, F.b0, Int.fmod_nonneg_of_pos _ (by decide), Int.fmod_lt_of_pos _ (by decide), F.p⟩⟩
      · dsimp!; exact same
    · dsimp!; exact same
  · rintro e1 S1 ⟨z, a, b, c, rfl, rfl, F⟩
    refine rs_cut (fun e S2 => e = [some (W.c i), some (W.d (D.int m)), some (W.d (D.lst (List.map D.int cells))), z, none] ∧ S2 = S.set i (feedC cells a b c)) ?_ ?_
    · dsimp! [g1, feedC]
      refine br_of (fun hb => ?_) (fun hb => ?_)
      · dsimp! [g1, feedC, hm0, hmd, List.set_set]
        rw [List.take_of_length_le (by simp)]
        refine h _ _ (Int.fmod_nonneg_of_pos _ h0) (Int.fmod_lt_of_pos _ h0) ⟨cells, a, _, c, rfl, ⟨F.n, F.a0, ?_, F.c0, F.c1, F.p⟩⟩
        rw [Int.fdiv_eq_ediv_of_nonneg _ (by omega)]
        exact Int.ediv_nonneg F.b0 (by omega)
      · dsimp!
        rfl
    · rintro e2 S2 ⟨rfl, rfl⟩
      simp_all! [g1, feedC, m3, List.set_set]
      have h3 := Int.fmod_nonneg_of_pos (c * 16807 + 12345) (b := 2147483629) (by decide)
      have h4 := Int.fmod_lt_of_pos (c * 16807 + 12345) (b := 2147483629) (by decide)
      generalize (c * 16807 + 12345).fmod 2147483629 = c' at h3 h4 ⊢

      dsimp! [g1, feedC, d1, d2, hm0, (mulOkR (by omega) : IntMulOk c' c')]
      rw [List.take_of_length_le (by simp)]
      exact h _ _ (Int.fmod_nonneg_of_pos _ h0) (Int.fmod_lt_of_pos _ h0) ⟨cells, a, b, c', rfl, ⟨F.n, F.a0, F.b0, h3, by omega, F.p⟩⟩
theorem cutL_map {α β : Type} (f : α → β) (xs : List α) (lo hi : Option Int) : cutL (xs.map f) lo hi = (cutL xs lo hi).map f := by
  unfold cutL
  rw [List.length_map, List.map_take, List.map_drop]
theorem cutL_le {α : Type} (xs : List α) (lo hi : Option Int) : (cutL xs lo hi).length ≤ xs.length := by
  unfold cutL
  simp
  omega
theorem feed_ok {n : Nat} {ns : List Int} {S : Sto} {Q : W → Sto → Prop} (hn : 1 ≤ n) (hl : ns.length ≤ 63) (h : ∀ o, Feed o → Q (.c S.length) (S ++ [o])) : (FT n i__law_feed [.d (.lsx (ns.map D.int))] S).sat Q := by
  obtain ⟨n, rfl⟩ : ∃ k, n = k + 1 := ⟨n - 1, by omega⟩
  rw [FT__law_feed]
  refine run_sat rfl ?_
  unfold c__law_feed
  have hc := cutL_le ns none (some 63)
  simp! [cutL_map]
  refine Py.comp_map (fun x => match x with | .d (.int i) => .d (.int i.natAbs) | w => w) ?_ trivial ?_
  · intro x hx
    simp only [List.mem_map] at hx
    obtain ⟨_, ⟨z, _, rfl⟩, rfl⟩ := hx
    refine ⟨_, rfl, ?_⟩
    simp!
    show W.d (.int (if z < 0 then -z else z)) = .d (.int z.natAbs)
    congr 2
    split <;> omega
  · have e : ((cutL ns none (some 63)).map D.int |>.map W.d).map (fun x => match x with | W.d (.int i) => W.d (.int i.natAbs) | w => w) = ((cutL ns none (some 63)).map fun z => D.int z.natAbs).map W.d := by simp
    rw [e]
    refine br_of (fun _ => ?_) (fun h => absurd (show _ ≤ _ by rw [List.length_map, List.length_map]; omega) h)
    rw [plainL_map]
    · have hsz : (4 : Nat) ≤ sizeLine := by decide
      simp! [hsz]
      show (if S.length < S.length then _ else _ : Prop)
      rw [if_neg (Nat.lt_irrefl _)]
      refine h _ ⟨(cutL ns none (some 63)).map fun z => (z.natAbs : Int), 0, 0, 7 + ns.length, ?_, ?_⟩
      · unfold feedC
        simp
      · exact ⟨by simp; omega, by decide, by decide, by omega, by omega, by intro z hz; simp at hz; omega⟩
end Lw

namespace Lw
open PySem PySem.Spec PyProof.Rows L2 Py
/-! fractions in lowest terms -/
abbrev RQ (q : Rat) : D := .obj 0 [.int q.num, .int q.den]
def Sz (k : Nat) (q : Rat) : Prop := q.num.natAbs < 2 ^ k ∧ q.den < 2 ^ k
theorem Sz.mono {k l : Nat} {q : Rat} (h : Sz k q) (hl : k ≤ l) : Sz l q := ⟨Nat.lt_of_lt_of_le h.1 (Nat.pow_le_pow_right (by decide) hl), Nat.lt_of_lt_of_le h.2 (Nat.pow_le_pow_right (by decide) hl)⟩
theorem sz_divInt {k : Nat} {a b : Int} (ha : a.natAbs < 2 ^ k) (hb : b.natAbs < 2 ^ k) (h0 : b ≠ 0) : Sz k (Rat.divInt a b) := by
  constructor
  · rw [Rat.num_divInt]
    refine Nat.lt_of_le_of_lt (Int.natAbs_ediv_le_natAbs _ _) ?_
    rw [Int.natAbs_mul]
    have : b.sign.natAbs = 1 := by
      rcases Int.lt_trichotomy b 0 with h | h | h
      · rw [Int.sign_eq_neg_one_of_neg h]; rfl
      · exact absurd h h0
      · rw [Int.sign_eq_one_of_pos h]; rfl
    rw [this, Nat.one_mul]
    exact ha
  · rw [Rat.den_divInt, if_neg h0]
    exact Nat.lt_of_le_of_lt (Nat.div_le_self _ _) hb
theorem na_mul {a b : Int} {k l : Nat} (ha : a.natAbs < 2 ^ k) (hb : b.natAbs < 2 ^ l) : (a * b).natAbs < 2 ^ (k + l) := by
  rw [Int.natAbs_mul, Nat.pow_add]
  exact Nat.mul_lt_mul'' ha hb
theorem na_add {a b : Int} {k : Nat} (ha : a.natAbs < 2 ^ k) (hb : b.natAbs < 2 ^ k) : (a + b).natAbs < 2 ^ (k + 1) := by
  rw [Nat.pow_succ]
  omega
theorem na_sub {a b : Int} {k : Nat} (ha : a.natAbs < 2 ^ k) (hb : b.natAbs < 2 ^ k) : (a - b).natAbs < 2 ^ (k + 1) := by
  rw [Nat.pow_succ]
  omega
theorem na_up {a : Int} {k l : Nat} (ha : a.natAbs < 2 ^ k) (h : k ≤ l) : a.natAbs < 2 ^ l := Nat.lt_of_lt_of_le ha (Nat.pow_le_pow_right (by decide) h)
theorem add_divInt (p q : Rat) : p + q = Rat.divInt (p.num * q.den + q.num * p.den) (p.den * q.den) := by
  rw [Rat.add_def', ← Rat.divInt_ofNat, Int.natCast_mul]
theorem sub_divInt (p q : Rat) : p - q = Rat.divInt (p.num * q.den - q.num * p.den) (p.den * q.den) := by
  rw [Rat.sub_def', ← Rat.divInt_ofNat, Int.natCast_mul]
theorem mul_divInt (p q : Rat) : p * q = Rat.divInt (p.num * q.num) (p.den * q.den) := by
  rw [Rat.mul_def', ← Rat.divInt_ofNat, Int.natCast_mul]
theorem neg_divInt' (p : Rat) : -p = Rat.divInt (-p.num) p.den := by
  rw [← Rat.neg_num, ← Rat.neg_den p, Rat.num_divInt_den]
theorem den_ne (q : Rat) : (q.den : Int) ≠ 0 := by have := q.den_pos; omega
theorem sz_add {k l m : Nat} {p q : Rat} (hp : Sz k p) (hq : Sz l q) (h : k + l + 1 ≤ m) : Sz m (p + q) := by
  rw [add_divInt]
  have e1 := na_mul hp.1 (show (q.den : Int).natAbs < 2 ^ l from hq.2)
  have e2 := na_mul hq.1 (show (p.den : Int).natAbs < 2 ^ k from hp.2)
  rw [Nat.add_comm l k] at e2
  have e3 := na_mul (show (p.den : Int).natAbs < 2 ^ k from hp.2) (show (q.den : Int).natAbs < 2 ^ l from hq.2)
  exact (sz_divInt (na_add e1 e2) (na_up e3 (Nat.le_succ _)) (Int.mul_ne_zero (den_ne p) (den_ne q))).mono h
theorem sz_sub {k l m : Nat} {p q : Rat} (hp : Sz k p) (hq : Sz l q) (h : k + l + 1 ≤ m) : Sz m (p - q) := by
  rw [sub_divInt]
  have e1 := na_mul hp.1 (show (q.den : Int).natAbs < 2 ^ l from hq.2)
  have e2 := na_mul hq.1 (show (p.den : Int).natAbs < 2 ^ k from hp.2)
  rw [Nat.add_comm l k] at e2
  have e3 := na_mul (show (p.den : Int).natAbs < 2 ^ k from hp.2) (show (q.den : Int).natAbs < 2 ^ l from hq.2)
  exact (sz_divInt (na_sub e1 e2) (na_up e3 (Nat.le_succ _)) (Int.mul_ne_zero (den_ne p) (den_ne q))).mono h
theorem sz_mul {k l m : Nat} {p q : Rat} (hp : Sz k p) (hq : Sz l q) (h : k + l ≤ m) : Sz m (p * q) := by
  rw [mul_divInt]
  have e3 := na_mul (show (p.den : Int).natAbs < 2 ^ k from hp.2) (show (q.den : Int).natAbs < 2 ^ l from hq.2)
  exact (sz_divInt (na_mul hp.1 hq.1) e3 (Int.mul_ne_zero (den_ne p) (den_ne q))).mono h
theorem sz_neg {k : Nat} {p : Rat} (hp : Sz k p) : Sz k (-p) := ⟨by rw [Rat.neg_num, Int.natAbs_neg]; exact hp.1, by rw [Rat.neg_den]; exact hp.2⟩
/-- the steps of a remainder walk -/
def gmu (x y : Nat) : Nat := if y = 0 then 0 else 1 + Nat.log2 (x * y) + (if x < y then 1 else 0)
theorem gmu_lt {x y : Nat} (h : y ≠ 0) : gmu y (x % y) < gmu x y := by
  unfold gmu
  rw [if_neg h]
  by_cases hr : x % y = 0
  · rw [if_pos hr]; omega
  · rw [if_neg hr]
    have hlt := Nat.mod_lt x (Nat.pos_of_ne_zero h)
    rw [if_neg (show ¬ y < x % y by omega)]
    by_cases hx : x < y
    · rw [if_pos hx, Nat.mod_eq_of_lt hx, Nat.mul_comm]; omega
    · rw [if_neg hx]
      have h1 : x % y + x % y ≤ x := by
        have := Nat.mod_add_div x y
        have h2 : y ≤ y * (x / y) := Nat.le_mul_of_pos_right _ (Nat.div_pos (by omega) (by omega))
        omega
      have h2 : (y * (x % y)) * 2 ≤ x * y := by
        calc (y * (x % y)) * 2 = (x % y + x % y) * y := by grind
          _ ≤ x * y := Nat.mul_le_mul_right _ h1
      have h3 : y * (x % y) ≠ 0 := Nat.mul_ne_zero h hr
      have h4 : Nat.log2 ((y * (x % y)) * 2) = Nat.log2 (y * (x % y)) + 1 := by
        rw [Nat.mul_comm, Nat.log2_two_mul h3]
      have h5 : Nat.log2 ((y * (x % y)) * 2) ≤ Nat.log2 (x * y) := by
        rw [Nat.le_log2 (by omega)]
        exact Nat.le_trans (Nat.log2_self_le (by omega)) h2
      omega
theorem gmu_le {x y k : Nat} (hx : x < 2 ^ k) (hy : y < 2 ^ k) : gmu x y ≤ 2 * k + 2 := by
  unfold gmu
  split
  · omega
  · have : Nat.log2 (x * y) ≤ 2 * k := by
      by_cases h : x * y = 0
      · rw [h]; exact Nat.zero_le _
      · refine Nat.le_of_lt ((Nat.log2_lt h).mpr ?_)
        rw [Nat.two_mul, Nat.pow_add]
        exact Nat.mul_lt_mul'' hx hy
    split <;> omega
theorem fmod_nat (x y : Nat) : (x : Int).fmod (y : Int) = ((x % y : Nat) : Int) := by
  rw [Int.fmod_eq_emod_of_nonneg _ (by omega)]
  rfl
theorem shared_ok {n x y : Nat} {S : Sto} {Q : W → Sto → Prop} {k : Nat} (hn : 1 ≤ n) (hx : x < 2 ^ k) (hy : y < 2 ^ k) (hk : k ≤ 100000) (h : Q (.d (.int (Nat.gcd x y : Nat))) S) : (FT n i_shared_part [.d (.int x), .d (.int y)] S).sat Q := by
  obtain ⟨n, rfl⟩ : ∃ k, n = k + 1 := ⟨n - 1, by omega⟩
  rw [FT_shared_part]
  refine run_sat rfl ?_
  unfold c_shared_part
  refine rs_cut (fun e S1 => e = [some (.d (.int (Nat.gcd x y : Nat))), some (.d (.int 0))] ∧ S1 = S) ?_ ?_
  · rw [q_while]
    have hm := gmu_le hx hy
    refine while_sat (fun m e S1 => ∃ x' y' : Nat, e = [some (.d (.int x')), some (.d (.int y'))] ∧ S1 = S ∧ Nat.gcd x' y' = Nat.gcd x y ∧ m = gmu x' y') (gmu x y) (by unfold WF; omega) ⟨x, y, rfl, rfl, rfl, rfl⟩ ?_
    rintro m e S1 ⟨x', y', rfl, rfl, hg, rfl⟩
    dsimp!
    split
    · rename_i hc
      have hy0 : y' ≠ 0 := by simpa using hc
      have hyi : ¬ ((y' : Int) = 0) := by omega
      dsimp! [hyi, fmod_nat]
      refine ⟨_, gmu_lt hy0, y', x' % y', ?_⟩
      exact ⟨rfl, (Nat.gcd_comm _ _).trans ((Nat.gcd_rec y' x').symm.trans ((Nat.gcd_comm _ _).trans hg)), rfl⟩
    · rename_i hc
      have hy0 : y' = 0 := by
        have : (y' : Int) = 0 := by simpa using hc
        omega
      subst hy0
      rw [Nat.gcd_zero_right] at hg
      rw [hg]
      rfl
  · rintro e S1 ⟨rfl, rfl⟩
    dsimp!
    rw [List.take_length]
    exact h
theorem abs_eq (i : Int) : (if i < 0 then -i else i) = (i.natAbs : Int) := by split <;> omega
theorem sign_na {b : Int} (a : Int) (h0 : b ≠ 0) : (b.sign * a).natAbs = a.natAbs := by
  rw [Int.natAbs_mul]
  rcases Int.lt_trichotomy b 0 with h | h | h
  · rw [Int.sign_eq_neg_one_of_neg h]; simp
  · exact absurd h h0
  · rw [Int.sign_eq_one_of_pos h]; simp
theorem num_eq (a b : Int) : (Rat.divInt a b).num = b.sign * a / ((Nat.gcd a.natAbs b.natAbs : Nat) : Int) := by
  rw [Rat.num_divInt, Nat.gcd_comm]
  rfl
theorem den_eq {a b : Int} (h0 : b ≠ 0) : ((Rat.divInt a b).den : Int) = (b.natAbs : Int) / ((Nat.gcd a.natAbs b.natAbs : Nat) : Int) := by
  rw [Rat.den_divInt, if_neg h0, Nat.gcd_comm]
  rfl
/-- Ratio(a, b) -/
theorem mk_ok {n : Nat} {a b : Int} {S : Sto} {Q : W → Sto → Prop} {k : Nat} (hn : 3 ≤ n) (ha : a.natAbs < 2 ^ k) (hb : b.natAbs < 2 ^ k) (hk : k ≤ 8999) (h0 : b ≠ 0) (h : Q (.d (RQ (Rat.divInt a b))) S) : (mkF (FI n) 0 i_Ratio___init__ 3 2 [.d (.int a), .d (.int b)] S).sat Q := by
  obtain ⟨n, rfl⟩ : ∃ k, n = k + 3 := ⟨n - 3, by omega⟩
  have key : (FT (n + 2) i_Ratio___init__ [.c S.length, .d (.int a), .d (.int b)] (S ++ [.ins 0 []])).sat fun w S' => w = .d .non ∧ S' = S ++ [.ins 0 [.d (.int (Rat.divInt a b).num), .d (.int (Rat.divInt a b).den)]] := by
    rw [FT_Ratio___init__]
    refine run_sat rfl ?_
    unfold c_Ratio___init__
    simp_all! [h0]
    refine rs_cut (fun e S1 => S1 = S ++ [.ins 0 []] ∧ e = [some (.c S.length), some (.d (.int (b.sign * a))), some (.d (.int b.natAbs)), none]) ?_ ?_
    · dsimp!
      refine br_of (fun hb0 => ?_) (fun hb0 => ?_)
      · dsimp!
        rw [Int.sign_eq_neg_one_of_neg hb0, Int.ofNat_natAbs_of_nonpos (by omega), Int.neg_one_mul]
      · dsimp!
        rw [Int.sign_eq_one_of_pos (by omega), Int.natAbs_of_nonneg (by omega), Int.one_mul]
    · rintro e S1 ⟨rfl, rfl⟩
      have hg0 : Nat.gcd a.natAbs b.natAbs ≠ 0 := Nat.ne_of_gt (Nat.gcd_pos_of_pos_right _ (by omega))
      have hgi : ¬ ((Nat.gcd a.natAbs b.natAbs : Nat) : Int) = 0 := by omega
      have hgs : Nat.gcd a.natAbs b.natAbs < 2 ^ k := Nat.lt_of_le_of_lt (Nat.le_of_dvd (by omega) (Nat.gcd_dvd_right _ _)) hb
      have hd : ∀ x, Builtin.divisionGoesByPylong x ((Nat.gcd a.natAbs b.natAbs : Nat) : Int) = false := fun x => divOk (Nat.lt_of_lt_of_le hgs (Nat.pow_le_pow_right (by decide) hk))
      have e0 : (S ++ [Ce.ins 0 []])[S.length]? = some (.ins 0 []) := by simp
      have e1 : ∀ o, (S ++ [Ce.ins 0 []]).set S.length o = S ++ [o] := fun o => by simp
      have e2 : ∀ o : Ce, (S ++ [o])[S.length]? = some o := fun o => by simp
      have e3 : ∀ o o' : Ce, (S ++ [o]).set S.length o' = S ++ [o'] := fun o o' => by simp
      simp_all! [abs_eq, sign_na a h0]
      refine shared_ok (k := k) (by omega) ha hb (by omega) ?_
      dsimp! [hgi, hd, e0, e1, e2, e3]
      rw [List.take_of_length_le (by simp), Int.fdiv_eq_ediv_of_nonneg _ (by omega), Int.fdiv_eq_ediv_of_nonneg _ (by omega), num_eq a b, den_eq h0]
  obtain ⟨w, S', e, rfl, rfl⟩ := sat_get key
  unfold mkF
  rw [if_pos (by rfl), show FI (n + 3) = FT (n + 2) from rfl, e]
  simp only [List.getElem?_append_right (Nat.le_refl _), Nat.sub_self, List.getElem?_cons_zero, plainL, List.length_cons, List.length_nil, and_self, if_true, List.take_left, sat_ok, List.take_append_of_le_length (Nat.le_refl _), List.take_length]
  exact h
theorem rq_attr0 {q : Rat} {S : Sto} : attr 0 0 (.d (RQ q)) S = .ok (.d (.int q.num)) S := rfl
theorem rq_attr1 {q : Rat} {S : Sto} : attr 0 1 (.d (RQ q)) S = .ok (.d (.int q.den)) S := rfl
theorem add_ok {n : Nat} {p q : Rat} {S : Sto} {Q : W → Sto → Prop} {k l : Nat} (hn : 4 ≤ n) (hp : Sz k p) (hq : Sz l q) (hk : k + l + 1 ≤ 8999) (h : Q (.d (RQ (p + q))) S) : (FT n i_Ratio___add__ [.d (RQ p), .d (RQ q)] S).sat Q := by
  obtain ⟨n, rfl⟩ : ∃ k, n = k + 1 := ⟨n - 1, by omega⟩
  rw [FT_Ratio___add__]
  refine run_sat rfl ?_
  unfold c_Ratio___add__
  have e1 := na_mul hp.1 (show (q.den : Int).natAbs < 2 ^ l from hq.2)
  have e2 := na_mul hq.1 (show (p.den : Int).natAbs < 2 ^ k from hp.2)
  have e3 := na_mul (show (p.den : Int).natAbs < 2 ^ k from hp.2) (show (q.den : Int).natAbs < 2 ^ l from hq.2)
  have m1 : IntMulOk p.num q.den := mulOk hp.1 (show (q.den : Int).natAbs < 2 ^ l from hq.2) (by omega)
  have m2 : IntMulOk q.num p.den := mulOk hq.1 (show (p.den : Int).natAbs < 2 ^ k from hp.2) (by omega)
  have m3 : IntMulOk p.den q.den := mulOk (show (p.den : Int).natAbs < 2 ^ k from hp.2) (show (q.den : Int).natAbs < 2 ^ l from hq.2) (by omega)
  rw [Nat.add_comm l k] at e2
  dsimp! [m1, m2, m3]
  refine mk_ok (k := k + l + 1) (by omega) (na_add e1 e2) (na_up e3 (Nat.le_succ _)) hk (Int.mul_ne_zero (den_ne p) (den_ne q)) ?_
  dsimp!
  rw [List.take_length, ← add_divInt]
  exact h
theorem sub_ok {n : Nat} {p q : Rat} {S : Sto} {Q : W → Sto → Prop} {k l : Nat} (hn : 4 ≤ n) (hp : Sz k p) (hq : Sz l q) (hk : k + l + 1 ≤ 8999) (h : Q (.d (RQ (p - q))) S) : (FT n i_Ratio___sub__ [.d (RQ p), .d (RQ q)] S).sat Q := by
  obtain ⟨n, rfl⟩ : ∃ k, n = k + 1 := ⟨n - 1, by omega⟩
  rw [FT_Ratio___sub__]
  refine run_sat rfl ?_
  unfold c_Ratio___sub__
  have e1 := na_mul hp.1 (show (q.den : Int).natAbs < 2 ^ l from hq.2)
  have e2 := na_mul hq.1 (show (p.den : Int).natAbs < 2 ^ k from hp.2)
  have e3 := na_mul (show (p.den : Int).natAbs < 2 ^ k from hp.2) (show (q.den : Int).natAbs < 2 ^ l from hq.2)
  have m1 : IntMulOk p.num q.den := mulOk hp.1 (show (q.den : Int).natAbs < 2 ^ l from hq.2) (by omega)
  have m2 : IntMulOk q.num p.den := mulOk hq.1 (show (p.den : Int).natAbs < 2 ^ k from hp.2) (by omega)
  have m3 : IntMulOk p.den q.den := mulOk (show (p.den : Int).natAbs < 2 ^ k from hp.2) (show (q.den : Int).natAbs < 2 ^ l from hq.2) (by omega)
  rw [Nat.add_comm l k] at e2
  dsimp! [m1, m2, m3]
  refine mk_ok (k := k + l + 1) (by omega) (na_sub e1 e2) (na_up e3 (Nat.le_succ _)) hk (Int.mul_ne_zero (den_ne p) (den_ne q)) ?_
  dsimp!
  rw [List.take_length, ← sub_divInt]
  exact h
theorem mul_ok {n : Nat} {p q : Rat} {S : Sto} {Q : W → Sto → Prop} {k l : Nat} (hn : 4 ≤ n) (hp : Sz k p) (hq : Sz l q) (hk : k + l ≤ 8999) (h : Q (.d (RQ (p * q))) S) : (FT n i_Ratio___mul__ [.d (RQ p), .d (RQ q)] S).sat Q := by
  obtain ⟨n, rfl⟩ : ∃ k, n = k + 1 := ⟨n - 1, by omega⟩
  rw [FT_Ratio___mul__]
  refine run_sat rfl ?_
  unfold c_Ratio___mul__
  have e3 := na_mul (show (p.den : Int).natAbs < 2 ^ k from hp.2) (show (q.den : Int).natAbs < 2 ^ l from hq.2)
  have m1 : IntMulOk p.num q.num := mulOk hp.1 hq.1 (by omega)
  have m3 : IntMulOk p.den q.den := mulOk (show (p.den : Int).natAbs < 2 ^ k from hp.2) (show (q.den : Int).natAbs < 2 ^ l from hq.2) (by omega)
  dsimp! [m1, m3]
  refine mk_ok (k := k + l) (by omega) (na_mul hp.1 hq.1) e3 hk (Int.mul_ne_zero (den_ne p) (den_ne q)) ?_
  dsimp!
  rw [List.take_length, ← mul_divInt]
  exact h
theorem neg_ok {n : Nat} {p : Rat} {S : Sto} {Q : W → Sto → Prop} {k : Nat} (hn : 4 ≤ n) (hp : Sz k p) (hk : k ≤ 8999) (h : Q (.d (RQ (-p))) S) : (FT n i_Ratio___neg__ [.d (RQ p)] S).sat Q := by
  obtain ⟨n, rfl⟩ : ∃ k, n = k + 1 := ⟨n - 1, by omega⟩
  rw [FT_Ratio___neg__]
  refine run_sat rfl ?_
  unfold c_Ratio___neg__
  dsimp!
  refine mk_ok (k := k) (by omega) (by rw [Int.natAbs_neg]; exact hp.1) (show (p.den : Int).natAbs < 2 ^ k from hp.2) hk (den_ne p) ?_
  dsimp!
  rw [List.take_length, ← neg_divInt']
  exact h
end Lw

namespace Lw
open PySem PySem.Spec PyProof.Rows L2 Py
/-! the law's own fractions -/
abbrev TQ (q : Rat) : D := .tup [.int q.num, .int q.den]
theorem great_ok {n i p : Nat} {P : Int} {o : Ce} {S : Sto} {Q : W → Sto → Prop} (hn : 2 ≤ n) (hP : P = p) (ho : S[i]? = some o) (hf : Feed o) (hp : p ≤ 1000) (h : ∀ r o', 0 ≤ r → r < 100000 ^ p → Feed o' → Q (.d (.int r)) (S.set i o')) : (FT n i__law_great [.c i, .d (.int P)] S).sat Q := by
  obtain ⟨n, rfl⟩ : ∃ k, n = k + 1 := ⟨n - 1, by omega⟩
  have hi : i < S.length := (List.getElem?_eq_some_iff.mp ho).1
  have m1 : ∀ x, IntMulOk x 100000 := fun x => mulOkR (by decide)
  rw [FT__law_great]
  refine run_sat rfl ?_
  unfold c__law_great
  simp_all!
  refine rs_cut (fun e S1 => ∃ r o' x1 x3, e = [some (.c i), x1, some (.d (.int r)), x3] ∧ S1 = S.set i o' ∧ Feed o' ∧ 0 ≤ r ∧ r < 100000 ^ p) ?_ ?_
  · have hs : smallI P = true := smallI_of (by omega) (by omega)
    dsimp! [hs]
    refine for_sat (fun j e S1 => ∃ r o' x1 x3, e = [some (.c i), x1, some (.d (.int r)), x3] ∧ S1 = S.set i o' ∧ Feed o' ∧ 0 ≤ r ∧ r < 100000 ^ j) ?_ ?_ ?_
    · exact ⟨0, o, _, _, rfl, (set_same ho).symm, hf, by decide, by decide⟩
    · rintro j x e S1 hx ⟨r, o', x1, x3, rfl, rfl, hf, h0, h1⟩
      refine ⟨trivial, _, rfl, ?_⟩
      dsimp! [m1]
      refine draw_ok (by omega) (set_get hi) hf (by decide) (by decide) fun r' o'' h2 h3 hf' => ?_
      dsimp! [List.set_set]
      refine ⟨_, o'', _, _, rfl, rfl, hf', by omega, ?_⟩
      rw [Int.pow_succ]
      omega
    · rintro e S1 ⟨r, o', x1, x3, rfl, rfl, hf, h0, h1⟩
      have hl : (rng 0 P).length = p := by unfold rng; simp; omega
      rw [hl] at h1
      exact ⟨trivial, r, o', _, _, rfl, rfl, hf, h0, h1⟩
  · rintro e S1 ⟨r, o', x1, x3, rfl, rfl, hf, h0, h1⟩
    dsimp!
    rw [List.take_of_length_le (by simp)]
    exact h r o' h0 h1 hf
theorem pair_ok {n : Nat} {a b : Int} {S : Sto} {Q : W → Sto → Prop} {k : Nat} (hn : 1 ≤ n) (ha : a.natAbs < 2 ^ k) (hb : b.natAbs < 2 ^ k) (hk : k ≤ 8999) (h0 : b ≠ 0) (h : Q (.d (TQ (Rat.divInt a b))) S) : (FT n i__law_pair [.d (.int a), .d (.int b)] S).sat Q := by
  obtain ⟨n, rfl⟩ : ∃ k, n = k + 1 := ⟨n - 1, by omega⟩
  have hg0 : Nat.gcd a.natAbs b.natAbs ≠ 0 := Nat.ne_of_gt (Nat.gcd_pos_of_pos_right _ (by omega))
  have hgs : Nat.gcd a.natAbs b.natAbs < 2 ^ k := Nat.lt_of_le_of_lt (Nat.le_of_dvd (by omega) (Nat.gcd_dvd_right _ _)) hb
  have ga : ((Nat.gcd a.natAbs b.natAbs : Nat) : Int) ∣ a := Int.ofNat_dvd_left.mpr (Nat.gcd_dvd_left _ _)
  have gb : ((Nat.gcd a.natAbs b.natAbs : Nat) : Int) ∣ b := Int.ofNat_dvd_left.mpr (Nat.gcd_dvd_right _ _)
  rw [FT__law_pair]
  refine run_sat rfl ?_
  unfold c__law_pair
  simp_all! [abs_eq]
  simp_all! [abs_eq]
  refine rs_cut (fun e S1 => S1 = S ∧ e = [some (.d (.int a)), some (.d (.int b)), some (.d (.int (Nat.gcd a.natAbs b.natAbs : Nat))), some (.d (.int 0))]) ?_ ?_
  · rw [q_while]
    have hm := gmu_le ha hb
    refine while_sat (fun m e S1 => ∃ x' y' : Nat, S1 = S ∧ e = [some (.d (.int a)), some (.d (.int b)), some (.d (.int x')), some (.d (.int y'))] ∧ Nat.gcd x' y' = Nat.gcd a.natAbs b.natAbs ∧ m = gmu x' y') (gmu a.natAbs b.natAbs) (by unfold WF; omega) ⟨_, _, rfl, rfl, rfl, rfl⟩ ?_
    rintro m e S1 ⟨x', y', rfl, rfl, hg, rfl⟩
    dsimp!
    split
    · rename_i hc
      have hy0 : y' ≠ 0 := by
        intro e
        subst e
        simp at hc
      have hyi : ¬ ((y' : Int) = 0) := by omega
      dsimp! [hyi, fmod_nat]
      refine ⟨_, gmu_lt hy0, y', x' % y', ?_⟩
      exact ⟨rfl, (Nat.gcd_comm _ _).trans ((Nat.gcd_rec y' x').symm.trans ((Nat.gcd_comm _ _).trans hg)), rfl⟩
    · rename_i hc
      have hy0 : y' = 0 := by simpa using hc
      subst hy0
      rw [Nat.gcd_zero_right] at hg
      rw [hg]
      rfl
  · rintro e S1 ⟨rfl, rfl⟩
    have hres : ∀ g : Int, g.natAbs = Nat.gcd a.natAbs b.natAbs → (a.fdiv g = (Rat.divInt a b).num ∧ b.fdiv g = (Rat.divInt a b).den) → (Q (.d (.tup [.int (a.fdiv g), .int (b.fdiv g)])) S1) := fun g _ hg => by
      rw [hg.1, hg.2]
      exact h
    refine rs_cut (fun e S2 => S2 = S1 ∧ ∃ g : Int, e = [some (.d (.int a)), some (.d (.int b)), some (.d (.int g)), some (.d (.int 0))] ∧ g.natAbs = Nat.gcd a.natAbs b.natAbs ∧ a.fdiv g = (Rat.divInt a b).num ∧ b.fdiv g = (Rat.divInt a b).den) ?_ ?_
    · dsimp!
      refine br_of (fun hb0 => ?_) (fun hb0 => ?_)
      · dsimp!
        refine ⟨_, rfl, by omega, ?_, ?_⟩
        · rw [num_eq, Int.sign_eq_neg_one_of_neg hb0, Int.zero_sub, Int.fdiv_eq_ediv_of_dvd ((Int.neg_dvd).mpr ga), Int.ediv_neg, Int.neg_one_mul, Int.neg_ediv_of_dvd ga]
        · rw [den_eq h0, Int.zero_sub, Int.fdiv_eq_ediv_of_dvd ((Int.neg_dvd).mpr gb), Int.ediv_neg, Int.ofNat_natAbs_of_nonpos (by omega), Int.neg_ediv_of_dvd gb]
      · dsimp!
        refine ⟨_, rfl, by omega, ?_, ?_⟩
        · rw [num_eq, Int.sign_eq_one_of_pos (by omega), Int.fdiv_eq_ediv_of_dvd ga, Int.one_mul]
        · rw [den_eq h0, Int.fdiv_eq_ediv_of_dvd gb, Int.natAbs_of_nonneg (by omega)]
    · rintro e S2 ⟨rfl, g, rfl, hg, h1, h2⟩
      have hgi : ¬ g = 0 := by omega
      have hd : ∀ x, Builtin.divisionGoesByPylong x g = false := fun x => divOk (by rw [hg]; exact Nat.lt_of_lt_of_le hgs (Nat.pow_le_pow_right (by decide) hk))
      have hsz : (2 : Nat) ≤ sizeLine := by decide
      dsimp! [hgi, hd, hsz]
      rw [List.take_length, h1, h2]
      exact h
end Lw

namespace Lw
open PySem PySem.Spec PyProof.Rows L2 Py
/-! == of data of one make -/
structure Lk {α : Type} [DecidableEq α] (f : α → D) (n : Nat) : Prop where
  ex : ∃ g : α → PyData, (∀ a, D.py (f a) = some (g a)) ∧ (∀ a, PyData.canLay0 (g a) = true) ∧ (∀ a, PyData.depth (g a) ≤ n) ∧ ∀ a b, PyData.eqv (g a) (g b) = decide (a = b)
section
variable {α β : Type} [DecidableEq α] [DecidableEq β]
theorem Lk.int : Lk D.int 0 := ⟨.int, fun _ => by rw [D.py], fun _ => by simp [PyData.canLay0], fun _ => by simp [PyData.depth], fun a b => by simp only [PyData.eqv]; by_cases h : a = b <;> simp [h]⟩
theorem pyL_map {f : α → D} {g : α → PyData} (h : ∀ a, D.py (f a) = some (g a)) : ∀ l : List α, D.pyL (l.map f) = some (l.map g)
  | [] => by rw [List.map_nil, D.pyL]; rfl
  | a :: l => by rw [List.map_cons, D.pyL, h a, pyL_map h l]; rfl
theorem lay_map {g : α → PyData} (h : ∀ a, PyData.canLay0 (g a) = true) : ∀ l : List α, PyData.canLayAll0 (l.map g) = true
  | [] => by simp [PyData.canLayAll0]
  | a :: l => by simp [PyData.canLayAll0, h a, lay_map h l]
theorem depth_map {g : α → PyData} {n : Nat} (h : ∀ a, PyData.depth (g a) ≤ n) : ∀ l : List α, PyData.depthAll (l.map g) ≤ n
  | [] => by simp [PyData.depthAll]
  | a :: l => by
    rw [List.map_cons, PyData.depthAll]
    exact Nat.max_le.mpr ⟨h a, depth_map h l⟩
theorem eqv_map {g : α → PyData} (h : ∀ a b, PyData.eqv (g a) (g b) = decide (a = b)) : ∀ l m : List α, PyData.eqvAll (l.map g) (m.map g) = decide (l = m)
  | [], [] => by simp [PyData.eqvAll]
  | [], b :: m => by simp [PyData.eqvAll]
  | a :: l, [] => by simp [PyData.eqvAll]
  | a :: l, b :: m => by
    rw [List.map_cons, List.map_cons, PyData.eqvAll, h a b, eqv_map h l m]
    by_cases h1 : a = b <;> by_cases h2 : l = m <;> simp [h1, h2]
theorem Lk.lst {f : α → D} {n : Nat} (h : Lk f n) : Lk (fun l : List α => D.lst (l.map f)) (n + 1) := by
  obtain ⟨g, h1, h2, h3, h4⟩ := h.ex
  refine ⟨fun l => .list (l.map g), fun l => ?_, fun l => ?_, fun l => ?_, fun l m => ?_⟩
  · rw [D.py, pyL_map h1]; rfl
  · rw [PyData.canLay0]; exact lay_map h2 l
  · rw [PyData.depth]; exact Nat.succ_le_succ (depth_map h3 l)
  · rw [PyData.eqv]; exact eqv_map h4 l m
theorem Lk.tup {f : α → D} {n : Nat} (h : Lk f n) : Lk (fun l : List α => D.tup (l.map f)) (n + 1) := by
  obtain ⟨g, h1, h2, h3, h4⟩ := h.ex
  refine ⟨fun l => .tuple (l.map g), fun l => ?_, fun l => ?_, fun l => ?_, fun l m => ?_⟩
  · rw [D.py, pyL_map h1]; rfl
  · rw [PyData.canLay0]; exact lay_map h2 l
  · rw [PyData.depth]; exact Nat.succ_le_succ (depth_map h3 l)
  · rw [PyData.eqv]; exact eqv_map h4 l m
theorem Lk.pair {f : α → D} {g : β → D} {n : Nat} (h : Lk f n) (k : Lk g n) : Lk (fun p : α × β => D.tup [f p.1, g p.2]) (n + 1) := by
  obtain ⟨u, h1, h2, h3, h4⟩ := h.ex
  obtain ⟨v, k1, k2, k3, k4⟩ := k.ex
  refine ⟨fun p => .tuple [u p.1, v p.2], fun p => ?_, fun p => ?_, fun p => ?_, fun p q => ?_⟩
  · simp [D.py, D.pyL, h1, k1]
  · simp [PyData.canLay0, PyData.canLayAll0, h2, k2]
  · simp only [PyData.depth, PyData.depthAll]
    have a := h3 p.1
    have b := k3 p.2
    omega
  · simp only [PyData.eqv, PyData.eqvAll, h4, k4, Bool.and_true]
    obtain ⟨a, b⟩ := p
    obtain ⟨c, d⟩ := q
    by_cases e1 : a = c <;> by_cases e2 : b = d <;> simp [e1, e2]
theorem Lk.eq {f : α → D} {n : Nat} (h : Lk f n) (hn : n ≤ 64) {a b : α} {S : Sto} (h0 : eqS (f a) (f b) = none) : opEqG (.d (f a)) (.d (f b)) S = .ok (.d (.bl (decide (a = b)))) S := by
  obtain ⟨g, h1, h2, h3, h4⟩ := h.ex
  have sh : ∀ a, shp (g a) = true := fun a => by
    show (_ && _) = true
    rw [h2 a, Bool.true_and, decide_eq_true_eq]
    exact Nat.le_trans (h3 a) hn
  unfold opEqG
  dsimp only
  rw [h0]
  dsimp only
  unfold opEqD wpy
  dsimp only
  rw [h1 a, h1 b]
  dsimp only
  rw [if_pos ⟨sh a, sh b⟩, h4]
theorem Lk.ne {f : α → D} {n : Nat} (h : Lk f n) (hn : n ≤ 64) {a b : α} {S : Sto} (h0 : eqS (f a) (f b) = none) : opNeG (.d (f a)) (.d (f b)) S = .ok (.d (.bl (!decide (a = b)))) S := by
  obtain ⟨g, h1, h2, h3, h4⟩ := h.ex
  have sh : ∀ a, shp (g a) = true := fun a => by
    show (_ && _) = true
    rw [h2 a, Bool.true_and, decide_eq_true_eq]
    exact Nat.le_trans (h3 a) hn
  unfold opNeG
  dsimp only
  rw [h0]
  dsimp only
  unfold opNeD wpy
  dsimp only
  rw [h1 a, h1 b]
  dsimp only
  rw [if_pos ⟨sh a, sh b⟩, h4]
theorem Lk.eqD {f : α → D} {n : Nat} (h : Lk f n) (hn : n ≤ 64) {a b : α} {S : Sto} : opEqD (.d (f a)) (.d (f b)) S = .ok (.d (.bl (decide (a = b)))) S := by
  obtain ⟨g, h1, h2, h3, h4⟩ := h.ex
  have sh : ∀ a, shp (g a) = true := fun a => by
    show (_ && _) = true
    rw [h2 a, Bool.true_and, decide_eq_true_eq]
    exact Nat.le_trans (h3 a) hn
  unfold opEqD wpy
  dsimp only
  rw [h1 a, h1 b]
  dsimp only
  rw [if_pos ⟨sh a, sh b⟩, h4]
theorem Lk.neD {f : α → D} {n : Nat} (h : Lk f n) (hn : n ≤ 64) {a b : α} {S : Sto} : opNeD (.d (f a)) (.d (f b)) S = .ok (.d (.bl (!decide (a = b)))) S := by
  obtain ⟨g, h1, h2, h3, h4⟩ := h.ex
  have sh : ∀ a, shp (g a) = true := fun a => by
    show (_ && _) = true
    rw [h2 a, Bool.true_and, decide_eq_true_eq]
    exact Nat.le_trans (h3 a) hn
  unfold opNeD wpy
  dsimp only
  rw [h1 a, h1 b]
  dsimp only
  rw [if_pos ⟨sh a, sh b⟩, h4]
end
end Lw

namespace Lw
open PySem PySem.Spec PyProof.Rows L2 Py
/-! order and texts of fractions -/
theorem slen {i : Int} (h : i.natAbs < 2 ^ 1000) : (Str.ofString (toString i)).length ≤ 401 := by
  have e : (2 : Nat) ^ 1000 < 10 ^ 400 := by decide +kernel
  have h1 : (Nat.toDigits 10 i.natAbs).length ≤ 400 := digits10_le (by decide) (Nat.lt_trans h e)
  rw [Str.ofString_eq_toList]
  show (List.toArray _).size ≤ 401
  rw [List.size_toArray, List.length_map]
  cases i with
  | ofNat m =>
    show (Nat.repr m).toList.length ≤ 401
    rw [Nat.repr, String.toList_ofList]
    exact Nat.le_succ_of_le h1
  | negSucc m =>
    have e2 : (Nat.repr (m + 1)).toList.length ≤ 400 := by
      rw [Nat.repr, String.toList_ofList]
      exact h1
    show ("-" ++ Nat.repr (m + 1)).toList.length ≤ 401
    rw [String.toList_append, List.length_append]
    show 1 + _ ≤ 401
    omega
theorem slog {i : Int} (h : i.natAbs < 2 ^ 1000) : i.natAbs.log2 < 1920 := by
  by_cases h0 : i.natAbs = 0
  · rw [h0]; decide
  · exact Nat.lt_trans ((Nat.log2_lt h0).mpr h) (by decide)
theorem qeq {p q : Rat} : (p = q) ↔ (p.num = q.num ∧ (p.den : Int) = q.den) := ⟨fun h => by subst h; exact ⟨rfl, rfl⟩, fun h => Rat.ext h.1 (by have := h.2; omega)⟩
theorem eq_ok {n : Nat} {p q : Rat} {S : Sto} {Q : W → Sto → Prop} (hn : 1 ≤ n) (h : Q (.d (.bl (decide (p = q)))) S) : (FT n i_Ratio___eq__ [.d (RQ p), .d (RQ q)] S).sat Q := by
  obtain ⟨n, rfl⟩ : ∃ k, n = k + 1 := ⟨n - 1, by omega⟩
  rw [FT_Ratio___eq__]
  refine run_sat rfl ?_
  unfold c_Ratio___eq__
  simp! [SG, beq_self_eq_true]
  by_cases h1 : p.num = q.num
  · simp! [h1]
    rw [List.take_length]
    have e : decide (p = q) = ((p.den : Int) == (q.den : Int)) := by
      rw [Bool.eq_iff_iff, decide_eq_true_eq, beq_iff_eq, qeq]
      exact ⟨fun z => z.2, fun z => ⟨h1, z⟩⟩
    rw [e] at h
    exact h
  · simp! [h1]
    rw [List.take_length]
    have e : decide (p = q) = false := by
      rw [decide_eq_false_iff_not, qeq]
      exact fun z => h1 z.1
    rw [e] at h
    exact h
theorem eqN_ok {n : Nat} {p : Rat} {x : D} {t : Ty} {S : Sto} {Q : W → Sto → Prop} (hn : 1 ≤ n) (hx : tyOf (.d x) S = some t) (ht : ∀ c, t ≠ .cls c) (h : Q (.d (.bl false)) S) : (FT n i_Ratio___eq__ [.d (RQ p), .d x] S).sat Q := by
  obtain ⟨n, rfl⟩ : ∃ k, n = k + 1 := ⟨n - 1, by omega⟩
  rw [FT_Ratio___eq__]
  refine run_sat rfl ?_
  unfold c_Ratio___eq__
  cases x <;> simp at hx <;> subst hx <;> first | (exact absurd rfl (ht _)) | (simp!; rw [List.take_length]; exact h)
theorem eqO_q {n : Nat} {p : Rat} {x : D} {t : Ty} {S : Sto} {Q : W → Sto → Prop} (hn : 1 ≤ n) (hx : tyOf (.d x) S = some t) (ht : ∀ c, t ≠ .cls c) (h : Q (.d (.bl false)) S) : (eqO (FT n) 0 i_Ratio___eq__ opEqG (.d (RQ p)) (.d x) S).sat Q := by
  have e : okT 0 (tyOf (.d x) S) = true := by
    rw [hx]
    cases t <;> first | rfl | exact absurd rfl (ht _)
  show (if (0 : Nat) = 0 ∧ okT 0 (tyOf (.d x) S) = true then FT n i_Ratio___eq__ [.d (RQ p), .d x] S else .bad).sat Q
  rw [if_pos ⟨rfl, e⟩]
  exact eqN_ok hn hx ht h
theorem less_ok {n : Nat} {p q : Rat} {S : Sto} {Q : W → Sto → Prop} (hn : 1 ≤ n) (hp : Sz 1000 p) (hq : Sz 1000 q) (h : Q (.d (.bl (decide (p.num * q.den < q.num * p.den)))) S) : (FT n i_Ratio_is_less [.d (RQ p), .d (RQ q)] S).sat Q := by
  obtain ⟨n, rfl⟩ : ∃ k, n = k + 1 := ⟨n - 1, by omega⟩
  rw [FT_Ratio_is_less]
  refine run_sat rfl ?_
  unfold c_Ratio_is_less
  have m1 : IntMulOk p.num q.den := mulOk hp.1 (show (q.den : Int).natAbs < 2 ^ 1000 from hq.2) (by decide)
  have m2 : IntMulOk q.num p.den := mulOk hq.1 (show (p.den : Int).natAbs < 2 ^ 1000 from hp.2) (by decide)
  simp! [m1, m2]
  rw [List.take_length]
  exact h
theorem whole_ok {n : Nat} {p : Rat} {S : Sto} {Q : W → Sto → Prop} (hn : 1 ≤ n) (h : Q (.d (.bl ((p.den : Int) == 1))) S) : (FT n i_Ratio_is_whole [.d (RQ p)] S).sat Q := by
  obtain ⟨n, rfl⟩ : ∃ k, n = k + 1 := ⟨n - 1, by omega⟩
  rw [FT_Ratio_is_whole]
  refine run_sat rfl ?_
  unfold c_Ratio_is_whole
  simp!
  rw [List.take_length]
  exact h
noncomputable def qtext (p : Rat) : Str := if (p.den : Int) = 1 then Str.ofString (toString p.num) else Str.ofString (toString p.num) ++ Str.ofString "/" ++ Str.ofString (toString (p.den : Int))
theorem text_len {p : Rat} (hp : Sz 1000 p) : (Str.ofString (toString p.num)).length + (Str.ofString "/").length ≤ sizeLine ∧ (Str.ofString (toString p.num) ++ Str.ofString "/").length + (Str.ofString (toString (p.den : Int))).length ≤ sizeLine := by
  have h1 := slen hp.1
  have h2 := slen (show (p.den : Int).natAbs < 2 ^ 1000 from hp.2)
  have h3 : (Str.ofString "/").length = 1 := by decide
  have h4 : (Str.ofString (toString p.num) ++ Str.ofString "/").length = (Str.ofString (toString p.num)).length + (Str.ofString "/").length := by
    show (_ ++ _ : Array Nat).size = _
    rw [Array.size_append]
    rfl
  have h5 : 900 ≤ sizeLine := by decide
  omega
theorem text_ok {n : Nat} {p : Rat} {S : Sto} {Q : W → Sto → Prop} (hn : 1 ≤ n) (hp : Sz 1000 p) (h : Q (.d (.str (qtext p))) S) : (FT n i_Ratio_text [.d (RQ p)] S).sat Q := by
  obtain ⟨n, rfl⟩ : ∃ k, n = k + 1 := ⟨n - 1, by omega⟩
  obtain ⟨l1, l2⟩ := text_len hp
  rw [FT_Ratio_text]
  refine run_sat rfl ?_
  unfold c_Ratio_text
  unfold qtext at h
  refine rs_cut (fun e S1 => S1 = S ∧ e = [some (.d (RQ p))] ∧ ¬ (p.den : Int) = 1) ?_ ?_
  · simp!
    refine br_of (fun h1 => ?_) (fun h1 => ?_)
    · simp! [slog hp.1]
      rw [List.take_length]
      rw [if_pos h1] at h
      exact h
    · simp!
      exact h1
  · rintro e S1 ⟨rfl, rfl, h1⟩
    rw [if_neg h1] at h
    simp! [slog hp.1, slog (show (p.den : Int).natAbs < 2 ^ 1000 from hp.2), l1, l2]
    rw [List.take_length]
    exact h
theorem ltext_ok {n : Nat} {p : Rat} {S : Sto} {Q : W → Sto → Prop} (hn : 1 ≤ n) (hp : Sz 1000 p) (h : Q (.d (.str (qtext p))) S) : (FT n i__law_text [.d (TQ p)] S).sat Q := by
  obtain ⟨n, rfl⟩ : ∃ k, n = k + 1 := ⟨n - 1, by omega⟩
  obtain ⟨l1, l2⟩ := text_len hp
  rw [FT__law_text]
  refine run_sat rfl ?_
  unfold c__law_text
  unfold qtext at h
  refine rs_cut (fun e S1 => S1 = S ∧ e = [some (.d (TQ p))] ∧ ¬ (p.den : Int) = 1) ?_ ?_
  · simp!
    refine br_of (fun h1 => ?_) (fun h1 => ?_)
    · simp! [slog hp.1]
      rw [List.take_length]
      rw [if_pos h1] at h
      exact h
    · simp!
      exact h1
  · rintro e S1 ⟨rfl, rfl, h1⟩
    rw [if_neg h1] at h
    simp! [slog hp.1, slog (show (p.den : Int).natAbs < 2 ^ 1000 from hp.2), l1, l2]
    rw [List.take_length]
    exact h
theorem told_ok {n : Nat} {a b : Bool} {S : Sto} {Q : W → Sto → Prop} (hn : 1 ≤ n) (e : a = b) (h : Q (.d (.bl true)) S) : (FT n i__law_told [.d (.bl a), .d (.bl b)] S).sat Q := by
  subst e
  obtain ⟨n, rfl⟩ : ∃ k, n = k + 1 := ⟨n - 1, by omega⟩
  rw [FT__law_told]
  refine run_sat rfl ?_
  unfold c__law_told
  simp! [beq_self_eq_true]
  rw [List.take_length]
  exact h
theorem boolO_rq {n : Nat} {q : Rat} {S : Sto} (hn : 2 ≤ n) : gBoolO (FI n) 0 i_Ratio___bool__ [.d (RQ q)] S = .ok (.d (.bl (!decide (q.num = 0)))) S := by
  obtain ⟨n, rfl⟩ : ∃ k, n = k + 2 := ⟨n - 2, by omega⟩
  have h : (FT (n + 1) i_Ratio___bool__ [.d (RQ q)] S).sat fun w S' => w = .d (.bl (!decide (q.num = 0))) ∧ S' = S := by
    rw [FT_Ratio___bool__]
    refine run_sat rfl ?_
    unfold c_Ratio___bool__
    simp!
    rw [List.take_length]
  obtain ⟨w, S', e, rfl, rfl⟩ := sat_get h
  show (if (0 : Nat) = 0 then (match FT (n + 1) i_Ratio___bool__ [.d (RQ q)] S' with
    | R.ok (W.d (D.bl b)) S' => R.ok (W.d (.bl b)) S'
    | _ => R.bad) else R.bad) = _
  rw [if_pos rfl, e]
theorem alone_ok {n : Nat} {p : Rat} {S : Sto} {Q : W → Sto → Prop} (hn : 4 ≤ n) (hp : Sz 1000 p) (h : Q (.d (.bl true)) S) : (FT n i__law_alone [.d (RQ p), .d (TQ p)] S).sat Q := by
  obtain ⟨n, rfl⟩ : ∃ k, n = k + 1 := ⟨n - 1, by omega⟩
  have hI : FI n = FT (n - 1) := by
    obtain ⟨m, rfl⟩ : ∃ k, n = k + 1 := ⟨n - 1, by omega⟩
    rfl
  have z5 : (5 : Nat) ≤ sizeLine := by decide
  have z2 : (2 : Nat) ≤ sizeLine := by decide
  rw [FT__law_alone]
  refine run_sat rfl ?_
  unfold c__law_alone
  simp_all!
  refine text_ok (by omega) hp ?_
  simp!
  refine rs_cut (fun e S1 => S1 = S ∧ e = [some (.d (RQ p)), some (.d (TQ p)), some (.d (.str (qtext p))), none]) ?_ ?_
  · simp!
    refine ltext_ok (by omega) hp ?_
    simp!
  intro e S1 hh
  obtain ⟨hS, he⟩ := hh
  subst hS he
  refine rs_cut (fun e S2 => S2 = S1 ∧ e = [some (.d (RQ p)), some (.d (TQ p)), some (.d (.str (qtext p))), none]) ?_ ?_
  · simp! [hI]
    refine whole_ok (by omega) ?_
    simp!
    refine told_ok (by omega) rfl ?_
    simp!
    rw [boolO_rq (by omega)]
    simp!
  intro e S2 hh
  obtain ⟨hS, he⟩ := hh
  subst hS he
  refine rs_cut (fun e S3 => S3 = S2 ∧ ∃ x1 x2 x3, e = [some (.d (RQ p)), x1, x2, x3]) ?_ ?_
  · simp!
    refine ltext_ok (by omega) hp ?_
    simp! [z5, z2]
    refine for_sat (fun _ e S3 => S3 = S2 ∧ ∃ x1 x2 x3, e = [some (.d (RQ p)), x1, x2, x3]) ⟨rfl, _, _, _, rfl⟩ ?_ ?_
    · rintro i x e S hx ⟨rfl, x1, x2, x3, rfl⟩
      refine ⟨trivial, _, rfl, ?_⟩
      have hx' : x = .d (.int p.num) ∨ x = .d (TQ p) ∨ x = .d (.str (qtext p)) ∨ x = .d .non ∨ x = .d (.lst [.int p.num, .int p.den]) := by
        match i, hx with
        | 0, hx => cases hx; simp
        | 1, hx => cases hx; simp
        | 2, hx => cases hx; simp
        | 3, hx => cases hx; simp
        | 4, hx => cases hx; simp
      rcases hx' with rfl | rfl | rfl | rfl | rfl <;>
      · simp!
        refine eqN_ok (by omega) rfl (by intro c z; cases z) ?_
        simp!
        refine told_ok (by omega) rfl ?_
        simp!
        exact ⟨_, _, _, rfl⟩
    · rintro e S ⟨rfl, x1, x2, x3, rfl⟩
      exact ⟨trivial, rfl, _, _, _, rfl⟩
  intro e S3 hh
  obtain ⟨hS, x1, x2, x3, he⟩ := hh
  subst hS he
  simp!
  rw [List.take_length]
  exact h
abbrev PF2 (t : D) : Prop := ∃ a b : Int, t = .tup [.int a, .int b] ∧ a.natAbs < 2 ^ 985 ∧ b.natAbs < 2 ^ 985 ∧ b ≠ 0
theorem p985 {r : Int} {p : Nat} (hp : p ≤ 59) (h0 : 0 ≤ r) (h1 : r < 100000 ^ p) : r.natAbs < 2 ^ 980 := by
  have e : (100000 : Nat) ^ 59 < 2 ^ 980 := by decide +kernel
  have e2 : (100000 : Nat) ^ p ≤ 100000 ^ 59 := Nat.pow_le_pow_right (by decide) hp
  have e3 : ((100000 ^ p : Nat) : Int) = (100000 : Int) ^ p := by simp
  generalize (100000 : Nat) ^ 59 = A at e e2
  generalize (2 : Nat) ^ 980 = B at e ⊢
  generalize (100000 : Int) ^ p = C at e3 h1
  omega
theorem fraction_ok {n i p : Nat} {P : Int} {o : Ce} {S : Sto} {Q : W → Sto → Prop} (hn : 3 ≤ n) (hP : P = p) (ho : S[i]? = some o) (hf : Feed o) (hp : p ≤ 59) (h : ∀ t o', PF2 t → Feed o' → Q (.d t) (S.set i o')) : (FT n i__law_fraction [.c i, .d (.int P)] S).sat Q := by
  obtain ⟨n, rfl⟩ : ∃ k, n = k + 1 := ⟨n - 1, by omega⟩
  have hi : i < S.length := (List.getElem?_eq_some_iff.mp ho).1
  have e100 : (100 : Nat) < 2 ^ 982 := Nat.lt_of_lt_of_le (show 100 < 2 ^ 10 by decide) (Nat.pow_le_pow_right (by decide) (by decide))
  have e980 : (2 : Nat) ^ 980 ≤ 2 ^ 982 := Nat.pow_le_pow_right (by decide) (by decide)
  have z2 : (2 : Nat) ≤ sizeLine := by decide
  rw [FT__law_fraction]
  refine run_sat rfl ?_
  unfold c__law_fraction
  simp_all!
  refine draw_ok (by omega) ho hf (by decide) (by decide) fun a o a0 a1 hf => ?_
  simp!
  simp_all!
  refine draw_ok (by omega) (set_get hi) hf (by decide) (by decide) fun b o b0 b1 hf => ?_
  simp! [List.set_set]
  simp_all!
  refine draw_ok (by omega) (set_get hi) hf (by decide) (by decide) fun kind o k0 k1 hf => ?_
  simp! [List.set_set]
  have ha : (a - 20).natAbs < 2 ^ 982 := by omega
  have hb : 1 ≤ 1 + b ∧ (1 + b).natAbs < 2 ^ 982 := by omega
  generalize a - 20 = a at ha ⊢
  generalize 1 + b = b at hb ⊢
  refine rs_cut (fun e S1 => ∃ a o', e = [some (.c i), some (.d (.int P)), some (.d (.int a)), some (.d (.int b)), some (.d (.int kind))] ∧ S1 = S.set i o' ∧ Feed o' ∧ a.natAbs < 2 ^ 982) ?_ ?_
  · simp!
    refine br_of (fun h1 => ?_) (fun h1 => ?_)
    · simp!
      refine great_ok (by omega) hP (set_get hi) hf (by omega) fun r o h0 h1 hf => ?_
      simp! [List.set_set]
      refine draw_ok (by omega) (set_get hi) hf (by decide) (by decide) fun s o h2 h3 hf => ?_
      have hr := p985 hp h0 h1
      have hs : (1 - 2 * s).natAbs < 2 ^ 2 := by omega
      simp! [List.set_set, (mulOkL (by decide) : IntMulOk 2 s), (mulOk hr hs (by decide) : IntMulOk r (1 - 2 * s))]
      exact ⟨_, o, rfl, rfl, hf, na_mul hr hs⟩
    · simp!
      exact ⟨a, o, rfl, rfl, hf, ha⟩
  rintro e S1 ⟨a, o, rfl, rfl, hf, ha⟩
  refine rs_cut (fun e S1 => ∃ b o', e = [some (.c i), some (.d (.int P)), some (.d (.int a)), some (.d (.int b)), some (.d (.int kind))] ∧ S1 = S.set i o' ∧ Feed o' ∧ b ≠ 0 ∧ b.natAbs < 2 ^ 982) ?_ ?_
  · simp!
    refine br_of (fun h1 => ?_) (fun h1 => ?_)
    · simp!
      refine great_ok (by omega) hP (set_get hi) hf (by omega) fun r o h0 h1 hf => ?_
      have hr := p985 hp h0 h1
      simp! [List.set_set]
      refine ⟨_, o, rfl, rfl, hf, ?_, ?_⟩
      · split <;> omega
      · split <;> omega
    · simp!
      exact ⟨b, o, rfl, rfl, hf, by omega, hb.2⟩
  rintro e S1 ⟨b, o, rfl, rfl, hf, hb0, hb⟩
  simp! [z2]
  rw [List.take_of_length_le (by simp)]
  exact h _ o ⟨_, _, rfl, na_up ha (by decide), na_up hb (by decide), hb0⟩ hf
theorem lt_sat (ns : List Int) (hl : ns.length ≤ 63) : (FT 200 i_law [.d (.lsx (ns.map D.int))] []).sat fun w _ => w = .d (.bl true) := by
  have s2 : smallI 2 = true := by decide
  have z2 : (2 : Nat) ≤ sizeLine := by decide
  have z3 : (3 : Nat) ≤ sizeLine := by decide
  have z4 : (4 : Nat) ≤ sizeLine := by decide
  rw [FT_law]
  generalize hd : D.lsx (ns.map D.int) = sc
  refine run_sat rfl ?_
  subst hd
  unfold c_law
  generalize hd : D.lsx (ns.map D.int) = sc
  simp_all!
  subst hd
  refine feed_ok (by omega) hl fun o hf => ?_
  generalize hd : D.lsx (ns.map D.int) = sc
  simp!
  refine rs_cut (fun e S1 => ∃ (p : Nat) (P : Int) (o : Ce), e = [some (.d sc), some (.c 0), some (.d (.int P)), none, none, none, none, none, none, none, none] ∧ S1 = [o] ∧ Feed o ∧ P = p ∧ p ≤ 59) ?_ ?_
  · simp! [z3]
    refine draw_ok (by omega) rfl hf (by decide) (by decide) fun r o h0 h1 hf => ?_
    have : r = 0 ∨ r = 1 ∨ r = 2 := by omega
    rcases this with rfl | rfl | rfl
    · simp!; exact ⟨1, 1, o, rfl, rfl, hf, rfl, by decide⟩
    · simp!; exact ⟨4, 4, o, rfl, rfl, hf, rfl, by decide⟩
    · simp!; exact ⟨59, 59, o, rfl, rfl, hf, rfl, by decide⟩
  rintro e S1 ⟨p, P, o, rfl, rfl, hf, hP, hp⟩
  simp_all!
  refine fraction_ok (by omega) hP rfl hf hp fun t0 o h0 hf => ?_
  simp!
  simp_all!
  refine fraction_ok (by omega) hP rfl hf hp fun t1 o h1 hf => ?_
  simp!
  simp_all!
  refine draw_ok (by omega) rfl hf (by decide) (by decide) fun near o n0 n1 hf => ?_
  simp!
  obtain ⟨a0, b0, rfl, ha0, hb0, nb0⟩ := h0
  have e985 : (10 : Nat) < 2 ^ 985 := Nat.lt_of_lt_of_le (show 10 < 2 ^ 4 by decide) (Nat.pow_le_pow_right (by decide) (by decide))
  have e986 : (2 : Nat) ^ 986 = 2 * 2 ^ 985 := Nat.pow_succ'
  refine rs_cut (fun e S1 => ∃ a1 b1 : Int, e = [some (.d sc), some (.c 0), some (.d (.int P)), some (.d (.tup [.int a0, .int b0])), some (.d (.tup [.int a1, .int b1])), some (.d (.int near)), none, none, none, none, none] ∧ S1 = [o] ∧ a1.natAbs < 2 ^ 986 ∧ b1.natAbs < 2 ^ 986 ∧ b1 ≠ 0) ?_ ?_
  · simp!
    refine br_of (fun h => ?_) (fun h => ?_)
    · simp! [z4, z2]
      have : near = 0 ∨ near = 1 ∨ near = 2 ∨ near = 3 := by omega
      rcases this with rfl | rfl | rfl | rfl
      · simp!; exact ⟨a0, b0, rfl, by omega, by omega, nb0⟩
      · simp!; exact ⟨_, b0, rfl, by omega, by omega, nb0⟩
      · simp!; exact ⟨_, b0, rfl, by omega, by omega, nb0⟩
      · simp!; exact ⟨_, b0, rfl, by omega, by omega, nb0⟩
    · obtain ⟨a1, b1, rfl, ha1, hb1, nb1⟩ := h1
      simp!
      exact ⟨a1, b1, rfl, by omega, by omega, nb1⟩
  rintro e S1 ⟨a1, b1, rfl, rfl, ha1, hb1, nb1⟩
  have ha0' := na_up ha0 (show 985 ≤ 986 by decide)
  have hb0' := na_up hb0 (show 985 ≤ 986 by decide)
  have q0 := (sz_divInt ha0' hb0' nb0).mono (show 986 ≤ 1000 by decide)
  have q1 := (sz_divInt ha1 hb1 nb1).mono (show 986 ≤ 1000 by decide)
  simp_all!
  refine pair_ok (by omega) ha0' hb0' (by decide) nb0 ?_
  simp!
  simp_all!
  refine pair_ok (by omega) ha1 hb1 (by decide) nb1 ?_
  simp!
  simp_all!
  refine mk_ok (by omega) ha0' hb0' (by decide) nb0 ?_
  simp!
  simp_all!
  refine mk_ok (by omega) ha1 hb1 (by decide) nb1 ?_
  simp!
  generalize Rat.divInt a0 b0 = p at q0 ⊢
  generalize Rat.divInt a1 b1 = q at q1 ⊢
  have m1 : IntMulOk p.num q.den := mulOk q0.1 (show (q.den : Int).natAbs < 2 ^ 1000 from q1.2) (by decide)
  have m2 : IntMulOk q.num p.den := mulOk q1.1 (show (p.den : Int).natAbs < 2 ^ 1000 from q0.2) (by decide)
  have LK : Lk (fun p : Int × Int => D.tup [.int p.1, .int p.2]) 1 := Lk.pair Lk.int Lk.int
  have eT : ∀ (p q : Rat) (S : Sto), opEqD (.d (TQ p)) (.d (TQ q)) S = .ok (.d (.bl (decide (p = q)))) S := fun p q S => by
    have := LK.eqD (by decide) (a := (p.num, (p.den : Int))) (b := (q.num, (q.den : Int))) (S := S)
    rw [show decide (p = q) = decide ((p.num, (p.den : Int)) = (q.num, (q.den : Int))) by simp only [Prod.mk.injEq, qeq]]
    exact this
  refine rs_cut (fun e S1 => S1 = [o] ∧ ∃ x0 x1 x2 x3 x4 x5 x10, e = [x0, x1, x2, x3, x4, x5, some (W.d (TQ p)), some (W.d (TQ q)), some (W.d (RQ p)), some (W.d (RQ q)), x10]) ?_ ?_
  · simp! [s2]
    refine for_sat (fun _ e S1 => S1 = [o] ∧ ∃ x0 x1 x2 x3 x4 x5 x10, e = [x0, x1, x2, x3, x4, x5, some (W.d (TQ p)), some (W.d (TQ q)), some (W.d (RQ p)), some (W.d (RQ q)), x10]) ⟨rfl, _, _, _, _, _, _, _, rfl⟩ ?_ ?_
    · rintro i x e S1 - ⟨rfl, x0, x1, x2, x3, x4, x5, x10, rfl⟩
      refine ⟨trivial, _, rfl, ?_⟩
      refine rs_cut (fun e S1 => S1 = [o] ∧ e = [none, none, none, none, none, none, some (W.d (TQ p)), some (W.d (TQ q)), some (W.d (RQ p)), some (W.d (RQ q)), some x]) ?_ ?_
      · simp!
        refine alone_ok (by omega) q0 ?_
        simp!
        refine alone_ok (by omega) q1 ?_
        simp!
      intro e S1 hh
      obtain ⟨hS, he⟩ := hh
      subst hS he
      refine rs_cut (fun e S1 => S1 = [o] ∧ e = [none, none, none, none, none, none, some (W.d (TQ p)), some (W.d (TQ q)), some (W.d (RQ p)), some (W.d (RQ q)), some x]) ?_ ?_
      · simp!
        refine eq_ok (by omega) ?_
        simp! [eT]
        refine told_ok (by omega) rfl ?_
        simp!
        refine eq_ok (by omega) ?_
        simp! [eT]
        refine told_ok (by omega) (by simp [eq_comm]) ?_
        simp!
      intro e S1 hh
      obtain ⟨hS, he⟩ := hh
      subst hS he
      refine rs_cut (fun e S1 => S1 = [o] ∧ e = [none, none, none, none, none, none, some (W.d (TQ p)), some (W.d (TQ q)), some (W.d (RQ p)), some (W.d (RQ q)), some x]) ?_ ?_
      · simp!
        refine less_ok (by omega) q0 q1 ?_
        simp! [m1, m2]
        refine told_ok (by omega) rfl ?_
        simp!
      intro e S1 hh
      obtain ⟨hS, he⟩ := hh
      subst hS he
      refine rs_cut (fun e S1 => S1 = [o] ∧ e = [none, none, none, none, none, none, some (W.d (TQ p)), some (W.d (TQ q)), some (W.d (RQ p)), some (W.d (RQ q)), some x]) ?_ ?_
      · simp!
        refine less_ok (by omega) q1 q0 ?_
        simp! [m1, m2]
        refine told_ok (by omega) rfl ?_
        simp!
      intro e S1 hh
      obtain ⟨hS, he⟩ := hh
      subst hS he
      simp!
      refine less_ok (by omega) q0 q0 ?_
      simp!
      refine told_ok (by omega) (by simp) ?_
      simp!
      refine eq_ok (by omega) ?_
      simp!
      refine told_ok (by omega) (by simp) ?_
      simp!
      exact ⟨_, _, _, _, _, _, _, rfl⟩
    · rintro e S1 ⟨rfl, x0, x1, x2, x3, x4, x5, x10, rfl⟩
      exact ⟨trivial, rfl, _, _, _, _, _, _, _, rfl⟩
  intro e S1 hh
  obtain ⟨hS, x0, x1, x2, x3, x4, x5, x10, he⟩ := hh
  subst hS he
  simp!
theorem law_holds (ns : List Int) (h1 : ns.length ≤ 63) (_ : ∀ z ∈ ns, PySem.Builtin.Int.intBits z ≤ 1048576) : ∃ S, FT 200 i_law [.d (.lsx (ns.map D.int))] [] = .ok (.d (.bl true)) S := by
  obtain ⟨w, S, e, rfl⟩ := sat_get (lt_sat ns h1)
  exact ⟨S, e⟩
end Lw

namespace Lw
open PySem PySem.Spec PyProof.Rows L2 Py
def topS (i : Nat) : Stmt := PySem.Challenge.pw_wordworth_k02_ratio_order_and_texts.main.body.getD i (.Pass ⟨0, 0, 0, 0⟩)
abbrev JJ (G : Nat → Option Addr) : Jn := ⟨SG, G⟩
abbrev II (G : Nat → Option Addr) (K : PySem.W.Frag) : Inf := (JJ G).inf K
theorem nd_0 : (SG.fl 0).Nodup := by decide +kernel
theorem ln_0 : (SG.fl 0).length < 1000 := by decide +kernel
abbrev s_shared_part : Stmt := topS 5
abbrev n_shared_part : List Str := [("one" : Str), ("other" : Str)]
theorem sc_shared_part : FnScope n_shared_part [("one" : Str), ("other" : Str)] (defScope s_shared_part) := ⟨rfl, rfl, rfl, by decide +kernel, rfl, by decide +kernel, by decide +kernel⟩
abbrev s_Ratio___init__ : Stmt := inClass (topS 6) 0
abbrev n_Ratio___init__ : List Str := [("self" : Str), ("top" : Str), ("bottom" : Str), ("shared" : Str)]
theorem sc_Ratio___init__ : FnScope n_Ratio___init__ [("self" : Str), ("top" : Str), ("bottom" : Str)] (defScope s_Ratio___init__) := ⟨rfl, rfl, rfl, by decide +kernel, rfl, by decide +kernel, by decide +kernel⟩
abbrev s_Ratio___add__ : Stmt := inClass (topS 6) 1
abbrev n_Ratio___add__ : List Str := [("self" : Str), ("other" : Str)]
theorem sc_Ratio___add__ : FnScope n_Ratio___add__ [("self" : Str), ("other" : Str)] (defScope s_Ratio___add__) := ⟨rfl, rfl, rfl, by decide +kernel, rfl, by decide +kernel, by decide +kernel⟩
abbrev s_Ratio___sub__ : Stmt := inClass (topS 6) 2
abbrev n_Ratio___sub__ : List Str := [("self" : Str), ("other" : Str)]
theorem sc_Ratio___sub__ : FnScope n_Ratio___sub__ [("self" : Str), ("other" : Str)] (defScope s_Ratio___sub__) := ⟨rfl, rfl, rfl, by decide +kernel, rfl, by decide +kernel, by decide +kernel⟩
abbrev s_Ratio___mul__ : Stmt := inClass (topS 6) 3
abbrev n_Ratio___mul__ : List Str := [("self" : Str), ("other" : Str)]
theorem sc_Ratio___mul__ : FnScope n_Ratio___mul__ [("self" : Str), ("other" : Str)] (defScope s_Ratio___mul__) := ⟨rfl, rfl, rfl, by decide +kernel, rfl, by decide +kernel, by decide +kernel⟩
abbrev s_Ratio___neg__ : Stmt := inClass (topS 6) 4
abbrev n_Ratio___neg__ : List Str := [("self" : Str)]
theorem sc_Ratio___neg__ : FnScope n_Ratio___neg__ [("self" : Str)] (defScope s_Ratio___neg__) := ⟨rfl, rfl, rfl, by decide +kernel, rfl, by decide +kernel, by decide +kernel⟩
abbrev s_Ratio___eq__ : Stmt := inClass (topS 6) 5
abbrev n_Ratio___eq__ : List Str := [("self" : Str), ("other" : Str)]
theorem sc_Ratio___eq__ : FnScope n_Ratio___eq__ [("self" : Str), ("other" : Str)] (defScope s_Ratio___eq__) := ⟨rfl, rfl, rfl, by decide +kernel, rfl, by decide +kernel, by decide +kernel⟩
abbrev s_Ratio___bool__ : Stmt := inClass (topS 6) 6
abbrev n_Ratio___bool__ : List Str := [("self" : Str)]
theorem sc_Ratio___bool__ : FnScope n_Ratio___bool__ [("self" : Str)] (defScope s_Ratio___bool__) := ⟨rfl, rfl, rfl, by decide +kernel, rfl, by decide +kernel, by decide +kernel⟩
abbrev s_Ratio_is_less : Stmt := inClass (topS 6) 7
abbrev n_Ratio_is_less : List Str := [("self" : Str), ("other" : Str)]
theorem sc_Ratio_is_less : FnScope n_Ratio_is_less [("self" : Str), ("other" : Str)] (defScope s_Ratio_is_less) := ⟨rfl, rfl, rfl, by decide +kernel, rfl, by decide +kernel, by decide +kernel⟩
abbrev s_Ratio_is_whole : Stmt := inClass (topS 6) 9
abbrev n_Ratio_is_whole : List Str := [("self" : Str)]
theorem sc_Ratio_is_whole : FnScope n_Ratio_is_whole [("self" : Str)] (defScope s_Ratio_is_whole) := ⟨rfl, rfl, rfl, by decide +kernel, rfl, by decide +kernel, by decide +kernel⟩
abbrev s_Ratio_text : Stmt := inClass (topS 6) 10
abbrev n_Ratio_text : List Str := [("self" : Str)]
theorem sc_Ratio_text : FnScope n_Ratio_text [("self" : Str)] (defScope s_Ratio_text) := ⟨rfl, rfl, rfl, by decide +kernel, rfl, by decide +kernel, by decide +kernel⟩
abbrev s__law_feed : Stmt := topS 8
abbrev n__law_feed : List Str := [("script" : Str), ("cell" : Str)]
theorem sc__law_feed : FnScope n__law_feed [("script" : Str)] (defScope s__law_feed) := ⟨rfl, rfl, rfl, by decide +kernel, rfl, by decide +kernel, by decide +kernel⟩
abbrev s__law_draw : Stmt := topS 9
abbrev n__law_draw : List Str := [("feed" : Str), ("limit" : Str), ("cells" : Str), ("cell" : Str), ("found" : Str)]
theorem sc__law_draw : FnScope n__law_draw [("feed" : Str), ("limit" : Str)] (defScope s__law_draw) := ⟨rfl, rfl, rfl, by decide +kernel, rfl, by decide +kernel, by decide +kernel⟩
abbrev s__law_great : Stmt := topS 10
abbrev n__law_great : List Str := [("feed" : Str), ("parts" : Str), ("found" : Str), ("k" : Str)]
theorem sc__law_great : FnScope n__law_great [("feed" : Str), ("parts" : Str)] (defScope s__law_great) := ⟨rfl, rfl, rfl, by decide +kernel, rfl, by decide +kernel, by decide +kernel⟩
abbrev s__law_pair : Stmt := topS 11
abbrev n__law_pair : List Str := [("above" : Str), ("below" : Str), ("one" : Str), ("two" : Str)]
theorem sc__law_pair : FnScope n__law_pair [("above" : Str), ("below" : Str)] (defScope s__law_pair) := ⟨rfl, rfl, rfl, by decide +kernel, rfl, by decide +kernel, by decide +kernel⟩
abbrev s__law_fraction : Stmt := topS 12
abbrev n__law_fraction : List Str := [("feed" : Str), ("parts" : Str), ("above" : Str), ("below" : Str), ("kind" : Str)]
theorem sc__law_fraction : FnScope n__law_fraction [("feed" : Str), ("parts" : Str)] (defScope s__law_fraction) := ⟨rfl, rfl, rfl, by decide +kernel, rfl, by decide +kernel, by decide +kernel⟩
abbrev s__law_text : Stmt := topS 13
abbrev n__law_text : List Str := [("one" : Str)]
theorem sc__law_text : FnScope n__law_text [("one" : Str)] (defScope s__law_text) := ⟨rfl, rfl, rfl, by decide +kernel, rfl, by decide +kernel, by decide +kernel⟩
abbrev s__law_told : Stmt := topS 14
abbrev n__law_told : List Str := [("actual" : Str), ("due" : Str)]
theorem sc__law_told : FnScope n__law_told [("actual" : Str), ("due" : Str)] (defScope s__law_told) := ⟨rfl, rfl, rfl, by decide +kernel, rfl, by decide +kernel, by decide +kernel⟩
abbrev s__law_alone : Stmt := topS 15
abbrev n__law_alone : List Str := [("made" : Str), ("due" : Str), ("said" : Str), ("other" : Str)]
theorem sc__law_alone : FnScope n__law_alone [("made" : Str), ("due" : Str)] (defScope s__law_alone) := ⟨rfl, rfl, rfl, by decide +kernel, rfl, by decide +kernel, by decide +kernel⟩
abbrev s_law : Stmt := topS 16
abbrev n_law : List Str := [("script" : Str), ("feed" : Str), ("parts" : Str), ("one" : Str), ("two" : Str), ("near" : Str), ("due" : Str), ("other" : Str), ("made" : Str), ("more" : Str), ("turn" : Str)]
theorem sc_law : FnScope n_law [("script" : Str)] (defScope s_law) := ⟨rfl, rfl, rfl, by decide +kernel, rfl, by decide +kernel, by decide +kernel⟩
section
variable {P : Program} {w : World} {K : PySem.W.Frag} {mg : Str → Option Value} {base : Heap} {G : Nat → Option Addr} {F F1 Fi : FnTab} {k : Nat} {fa : Addr} {fd : FuncData}
theorem ok_shared_part (hF : Fun K "shared_part" "shared_part" s_shared_part fa fd) (T : Tb (JJ G) P w K mg base F Fi k) (he : ∀ ws S, F1 i_shared_part ws S = runDef 2 2 (c_shared_part F Fi) ws S) : FnOk P w K mg base (L2.CX P w) (k + 2) fa fd [("one" : Str), ("other" : Str)] (spOf (II G K) F1 i_shared_part 2) :=
  def_ok hF sc_shared_part rfl he fun cdv A outer s H E hr => (fun (c : Cok (JJ G) (cxOf (L2.CX P w) P w K mg base n_shared_part "shared_part" (defScope s_shared_part) fa cdv A outer s H E) (fun cls dd _ H' => E cls dd H') F Fi k) =>
    (ss_cons (ss_while c (st_cmp (o_neG (I := II G K) (units64 c.room)) (sx_var (pv 1)) sx_int) (ss_one (ss_par c.calm c.nd (by decide) (sx_var (pv 1)) (sx_op (o_mod (I := II G K)) (sx_var (pv 0)) (sx_var (pv 1)))))) (ss_one (ss_ret (sx_var (pv 0)))))) (cok_of T sc_shared_part hr)
theorem ok_Ratio___init__ (hF : FunD K "__init__" "Ratio.__init__" (defArgs s_Ratio___init__) (defBody s_Ratio___init__) (defScope s_Ratio___init__) [V.int 1] [] fa fd) (T : Tb (JJ G) P w K mg base F Fi k) (he : ∀ ws S, F1 i_Ratio___init__ ws S = runDef 4 3 (c_Ratio___init__ F Fi) ws S) : FnOk P w K mg base (L2.CX P w) (k + 2) fa fd [("self" : Str), ("top" : Str), ("bottom" : Str)] (spOf (II G K) F1 i_Ratio___init__ 3) :=
  def_okD hF sc_Ratio___init__ rfl he fun cdv A outer s H E hr => (fun (c : Cok (JJ G) (cxOf (L2.CX P w) P w K mg base n_Ratio___init__ "Ratio.__init__" (defScope s_Ratio___init__) fa cdv A outer s H E) (fun cls dd _ H' => E cls dd H') F Fi k) =>
    (ss_cons (ss_if (st_cmp (o_ownEq c (f := i_Ratio___eq__) (c := 0) rfl (o_eqG (I := II G K) (units64 c.room))) (sx_var (pv 2)) sx_int) (ss_one ss_never) ss_nil) (ss_cons (ss_if (st_cmp (o_lt (I := II G K)) (sx_var (pv 2)) sx_int) (ss_one (ss_par c.calm c.nd (by decide) (sx_un (u_own c (f := i_Ratio___neg__) (c := 0) rfl (u_neg (I := II G K))) (sx_var (pv 1))) (sx_un (u_own c (f := i_Ratio___neg__) (c := 0) rfl (u_neg (I := II G K))) (sx_var (pv 2))))) ss_nil) (ss_cons (ss_set c.nd (sx_call c (f := i_shared_part) rfl (sa_cons (sx_fn (c_abs (I := II G K)) c rfl bt_abs (sa_cons (sx_var (pv 1)) sa_nil)) (sa_cons (sx_var (pv 2)) sa_nil)))) (ss_cons (ss_fld c (c := 0) (i := 0) rfl nd_0 ln_0 (sx_var (pv 0)) (sx_op (o_div (I := II G K)) (sx_var (pv 1)) (sx_var (pv 3)))) (ss_one (ss_fld c (c := 0) (i := 1) rfl nd_0 ln_0 (sx_var (pv 0)) (sx_op (o_div (I := II G K)) (sx_var (pv 2)) (sx_var (pv 3)))))))))) (cok_of T sc_Ratio___init__ hr)
theorem ok_Ratio___add__ (hF : Fun K "__add__" "Ratio.__add__" s_Ratio___add__ fa fd) (T : Tb (JJ G) P w K mg base F Fi k) (he : ∀ ws S, F1 i_Ratio___add__ ws S = runDef 2 2 (c_Ratio___add__ F Fi) ws S) : FnOk P w K mg base (L2.CX P w) (k + 2) fa fd [("self" : Str), ("other" : Str)] (spOf (II G K) F1 i_Ratio___add__ 2) :=
  def_ok hF sc_Ratio___add__ rfl he fun cdv A outer s H E hr => (fun (c : Cok (JJ G) (cxOf (L2.CX P w) P w K mg base n_Ratio___add__ "Ratio.__add__" (defScope s_Ratio___add__) fa cdv A outer s H E) (fun cls dd _ H' => E cls dd H') F Fi k) =>
    (ss_one (ss_ret (sx_mkF c (x := "Ratio") (dfl := []) (dvs := []) rfl (by decide +kernel) (fun _ => .nil) rfl (sa_cons (sx_op (o_own c (f := i_Ratio___add__) (c := 0) rfl rfl (o_add (I := II G K))) (sx_op (o_own c (f := i_Ratio___mul__) (c := 0) rfl rfl (o_mul (I := II G K))) (sx_attr c (c := 0) (i := 0) rfl nd_0 (sx_var (pv 0))) (sx_attr c (c := 0) (i := 1) rfl nd_0 (sx_var (pv 1)))) (sx_op (o_own c (f := i_Ratio___mul__) (c := 0) rfl rfl (o_mul (I := II G K))) (sx_attr c (c := 0) (i := 0) rfl nd_0 (sx_var (pv 1))) (sx_attr c (c := 0) (i := 1) rfl nd_0 (sx_var (pv 0))))) (sa_cons (sx_op (o_own c (f := i_Ratio___mul__) (c := 0) rfl rfl (o_mul (I := II G K))) (sx_attr c (c := 0) (i := 1) rfl nd_0 (sx_var (pv 0))) (sx_attr c (c := 0) (i := 1) rfl nd_0 (sx_var (pv 1)))) sa_nil)))))) (cok_of T sc_Ratio___add__ hr)
theorem ok_Ratio___sub__ (hF : Fun K "__sub__" "Ratio.__sub__" s_Ratio___sub__ fa fd) (T : Tb (JJ G) P w K mg base F Fi k) (he : ∀ ws S, F1 i_Ratio___sub__ ws S = runDef 2 2 (c_Ratio___sub__ F Fi) ws S) : FnOk P w K mg base (L2.CX P w) (k + 2) fa fd [("self" : Str), ("other" : Str)] (spOf (II G K) F1 i_Ratio___sub__ 2) :=
  def_ok hF sc_Ratio___sub__ rfl he fun cdv A outer s H E hr => (fun (c : Cok (JJ G) (cxOf (L2.CX P w) P w K mg base n_Ratio___sub__ "Ratio.__sub__" (defScope s_Ratio___sub__) fa cdv A outer s H E) (fun cls dd _ H' => E cls dd H') F Fi k) =>
    (ss_one (ss_ret (sx_mkF c (x := "Ratio") (dfl := []) (dvs := []) rfl (by decide +kernel) (fun _ => .nil) rfl (sa_cons (sx_op (o_own c (f := i_Ratio___sub__) (c := 0) rfl rfl (o_sub (I := II G K))) (sx_op (o_own c (f := i_Ratio___mul__) (c := 0) rfl rfl (o_mul (I := II G K))) (sx_attr c (c := 0) (i := 0) rfl nd_0 (sx_var (pv 0))) (sx_attr c (c := 0) (i := 1) rfl nd_0 (sx_var (pv 1)))) (sx_op (o_own c (f := i_Ratio___mul__) (c := 0) rfl rfl (o_mul (I := II G K))) (sx_attr c (c := 0) (i := 0) rfl nd_0 (sx_var (pv 1))) (sx_attr c (c := 0) (i := 1) rfl nd_0 (sx_var (pv 0))))) (sa_cons (sx_op (o_own c (f := i_Ratio___mul__) (c := 0) rfl rfl (o_mul (I := II G K))) (sx_attr c (c := 0) (i := 1) rfl nd_0 (sx_var (pv 0))) (sx_attr c (c := 0) (i := 1) rfl nd_0 (sx_var (pv 1)))) sa_nil)))))) (cok_of T sc_Ratio___sub__ hr)
theorem ok_Ratio___mul__ (hF : Fun K "__mul__" "Ratio.__mul__" s_Ratio___mul__ fa fd) (T : Tb (JJ G) P w K mg base F Fi k) (he : ∀ ws S, F1 i_Ratio___mul__ ws S = runDef 2 2 (c_Ratio___mul__ F Fi) ws S) : FnOk P w K mg base (L2.CX P w) (k + 2) fa fd [("self" : Str), ("other" : Str)] (spOf (II G K) F1 i_Ratio___mul__ 2) :=
  def_ok hF sc_Ratio___mul__ rfl he fun cdv A outer s H E hr => (fun (c : Cok (JJ G) (cxOf (L2.CX P w) P w K mg base n_Ratio___mul__ "Ratio.__mul__" (defScope s_Ratio___mul__) fa cdv A outer s H E) (fun cls dd _ H' => E cls dd H') F Fi k) =>
    (ss_one (ss_ret (sx_mkF c (x := "Ratio") (dfl := []) (dvs := []) rfl (by decide +kernel) (fun _ => .nil) rfl (sa_cons (sx_op (o_own c (f := i_Ratio___mul__) (c := 0) rfl rfl (o_mul (I := II G K))) (sx_attr c (c := 0) (i := 0) rfl nd_0 (sx_var (pv 0))) (sx_attr c (c := 0) (i := 0) rfl nd_0 (sx_var (pv 1)))) (sa_cons (sx_op (o_own c (f := i_Ratio___mul__) (c := 0) rfl rfl (o_mul (I := II G K))) (sx_attr c (c := 0) (i := 1) rfl nd_0 (sx_var (pv 0))) (sx_attr c (c := 0) (i := 1) rfl nd_0 (sx_var (pv 1)))) sa_nil)))))) (cok_of T sc_Ratio___mul__ hr)
theorem ok_Ratio___neg__ (hF : Fun K "__neg__" "Ratio.__neg__" s_Ratio___neg__ fa fd) (T : Tb (JJ G) P w K mg base F Fi k) (he : ∀ ws S, F1 i_Ratio___neg__ ws S = runDef 1 1 (c_Ratio___neg__ F Fi) ws S) : FnOk P w K mg base (L2.CX P w) (k + 2) fa fd [("self" : Str)] (spOf (II G K) F1 i_Ratio___neg__ 1) :=
  def_ok hF sc_Ratio___neg__ rfl he fun cdv A outer s H E hr => (fun (c : Cok (JJ G) (cxOf (L2.CX P w) P w K mg base n_Ratio___neg__ "Ratio.__neg__" (defScope s_Ratio___neg__) fa cdv A outer s H E) (fun cls dd _ H' => E cls dd H') F Fi k) =>
    (ss_one (ss_ret (sx_mkF c (x := "Ratio") (dfl := []) (dvs := []) rfl (by decide +kernel) (fun _ => .nil) rfl (sa_cons (sx_un (u_own c (f := i_Ratio___neg__) (c := 0) rfl (u_neg (I := II G K))) (sx_attr c (c := 0) (i := 0) rfl nd_0 (sx_var (pv 0)))) (sa_cons (sx_attr c (c := 0) (i := 1) rfl nd_0 (sx_var (pv 0))) sa_nil)))))) (cok_of T sc_Ratio___neg__ hr)
theorem ok_Ratio___eq__ (hF : Fun K "__eq__" "Ratio.__eq__" s_Ratio___eq__ fa fd) (T : Tb (JJ G) P w K mg base F Fi k) (he : ∀ ws S, F1 i_Ratio___eq__ ws S = runDef 2 2 (c_Ratio___eq__ F Fi) ws S) : FnOk P w K mg base (L2.CX P w) (k + 2) fa fd [("self" : Str), ("other" : Str)] (spOf (II G K) F1 i_Ratio___eq__ 2) :=
  def_ok hF sc_Ratio___eq__ rfl he fun cdv A outer s H E hr => (fun (c : Cok (JJ G) (cxOf (L2.CX P w) P w K mg base n_Ratio___eq__ "Ratio.__eq__" (defScope s_Ratio___eq__) fa cdv A outer s H E) (fun cls dd _ H' => E cls dd H') F Fi k) =>
    (ss_one (ss_ret (sx_and (sx_isC c rfl rfl (sx_var (pv 1))) (sx_and (sx_cmp (o_ownEq c (f := i_Ratio___eq__) (c := 0) rfl (o_eqG (I := II G K) (units64 c.room))) (sx_attr c (c := 0) (i := 0) rfl nd_0 (sx_var (pv 0))) (sx_attr c (c := 0) (i := 0) rfl nd_0 (sx_var (pv 1)))) (sx_one (sx_cmp (o_ownEq c (f := i_Ratio___eq__) (c := 0) rfl (o_eqG (I := II G K) (units64 c.room))) (sx_attr c (c := 0) (i := 1) rfl nd_0 (sx_var (pv 0))) (sx_attr c (c := 0) (i := 1) rfl nd_0 (sx_var (pv 1)))))))))) (cok_of T sc_Ratio___eq__ hr)
theorem ok_Ratio___bool__ (hF : Fun K "__bool__" "Ratio.__bool__" s_Ratio___bool__ fa fd) (T : Tb (JJ G) P w K mg base F Fi k) (he : ∀ ws S, F1 i_Ratio___bool__ ws S = runDef 1 1 (c_Ratio___bool__ F Fi) ws S) : FnOk P w K mg base (L2.CX P w) (k + 2) fa fd [("self" : Str)] (spOf (II G K) F1 i_Ratio___bool__ 1) :=
  def_ok hF sc_Ratio___bool__ rfl he fun cdv A outer s H E hr => (fun (c : Cok (JJ G) (cxOf (L2.CX P w) P w K mg base n_Ratio___bool__ "Ratio.__bool__" (defScope s_Ratio___bool__) fa cdv A outer s H E) (fun cls dd _ H' => E cls dd H') F Fi k) =>
    (ss_one (ss_ret (sx_cmp (o_neG (I := II G K) (units64 c.room)) (sx_attr c (c := 0) (i := 0) rfl nd_0 (sx_var (pv 0))) sx_int)))) (cok_of T sc_Ratio___bool__ hr)
theorem ok_Ratio_is_less (hF : Fun K "is_less" "Ratio.is_less" s_Ratio_is_less fa fd) (T : Tb (JJ G) P w K mg base F Fi k) (he : ∀ ws S, F1 i_Ratio_is_less ws S = runDef 2 2 (c_Ratio_is_less F Fi) ws S) : FnOk P w K mg base (L2.CX P w) (k + 2) fa fd [("self" : Str), ("other" : Str)] (spOf (II G K) F1 i_Ratio_is_less 2) :=
  def_ok hF sc_Ratio_is_less rfl he fun cdv A outer s H E hr => (fun (c : Cok (JJ G) (cxOf (L2.CX P w) P w K mg base n_Ratio_is_less "Ratio.is_less" (defScope s_Ratio_is_less) fa cdv A outer s H E) (fun cls dd _ H' => E cls dd H') F Fi k) =>
    (ss_one (ss_ret (sx_cmp (o_lt (I := II G K)) (sx_op (o_own c (f := i_Ratio___mul__) (c := 0) rfl rfl (o_mul (I := II G K))) (sx_attr c (c := 0) (i := 0) rfl nd_0 (sx_var (pv 0))) (sx_attr c (c := 0) (i := 1) rfl nd_0 (sx_var (pv 1)))) (sx_op (o_own c (f := i_Ratio___mul__) (c := 0) rfl rfl (o_mul (I := II G K))) (sx_attr c (c := 0) (i := 0) rfl nd_0 (sx_var (pv 1))) (sx_attr c (c := 0) (i := 1) rfl nd_0 (sx_var (pv 0)))))))) (cok_of T sc_Ratio_is_less hr)
theorem ok_Ratio_is_whole (hF : Fun K "is_whole" "Ratio.is_whole" s_Ratio_is_whole fa fd) (T : Tb (JJ G) P w K mg base F Fi k) (he : ∀ ws S, F1 i_Ratio_is_whole ws S = runDef 1 1 (c_Ratio_is_whole F Fi) ws S) : FnOk P w K mg base (L2.CX P w) (k + 2) fa fd [("self" : Str)] (spOf (II G K) F1 i_Ratio_is_whole 1) :=
  def_ok hF sc_Ratio_is_whole rfl he fun cdv A outer s H E hr => (fun (c : Cok (JJ G) (cxOf (L2.CX P w) P w K mg base n_Ratio_is_whole "Ratio.is_whole" (defScope s_Ratio_is_whole) fa cdv A outer s H E) (fun cls dd _ H' => E cls dd H') F Fi k) =>
    (ss_one (ss_ret (sx_cmp (o_ownEq c (f := i_Ratio___eq__) (c := 0) rfl (o_eqG (I := II G K) (units64 c.room))) (sx_attr c (c := 0) (i := 1) rfl nd_0 (sx_var (pv 0))) sx_int)))) (cok_of T sc_Ratio_is_whole hr)
theorem ok_Ratio_text (hF : Fun K "text" "Ratio.text" s_Ratio_text fa fd) (T : Tb (JJ G) P w K mg base F Fi k) (he : ∀ ws S, F1 i_Ratio_text ws S = runDef 1 1 (c_Ratio_text F Fi) ws S) : FnOk P w K mg base (L2.CX P w) (k + 2) fa fd [("self" : Str)] (spOf (II G K) F1 i_Ratio_text 1) :=
  def_ok hF sc_Ratio_text rfl he fun cdv A outer s H E hr => (fun (c : Cok (JJ G) (cxOf (L2.CX P w) P w K mg base n_Ratio_text "Ratio.text" (defScope s_Ratio_text) fa cdv A outer s H E) (fun cls dd _ H' => E cls dd H') F Fi k) =>
    (ss_cons (ss_if (st_cmp (o_ownEq c (f := i_Ratio___eq__) (c := 0) rfl (o_eqG (I := II G K) (units64 c.room))) (sx_attr c (c := 0) (i := 1) rfl nd_0 (sx_var (pv 0))) sx_int) (ss_one (ss_ret (sx_ty (c_str (I := II G K)) c rfl bt_str (sa_cons (sx_attr c (c := 0) (i := 0) rfl nd_0 (sx_var (pv 0))) sa_nil)))) ss_nil) (ss_one (ss_ret (sx_op (o_own c (f := i_Ratio___add__) (c := 0) rfl rfl (o_add (I := II G K))) (sx_op (o_own c (f := i_Ratio___add__) (c := 0) rfl rfl (o_add (I := II G K))) (sx_ty (c_str (I := II G K)) c rfl bt_str (sa_cons (sx_attr c (c := 0) (i := 0) rfl nd_0 (sx_var (pv 0))) sa_nil)) sx_str) (sx_ty (c_str (I := II G K)) c rfl bt_str (sa_cons (sx_attr c (c := 0) (i := 1) rfl nd_0 (sx_var (pv 0))) sa_nil))))))) (cok_of T sc_Ratio_text hr)
theorem ok__law_feed (hF : Fun K "_law_feed" "_law_feed" s__law_feed fa fd) (T : Tb (JJ G) P w K mg base F Fi k) (he : ∀ ws S, F1 i__law_feed ws S = runDef 2 1 (c__law_feed F Fi) ws S) : FnOk P w K mg base (L2.CX P w) (k + 2) fa fd [("script" : Str)] (spOf (II G K) F1 i__law_feed 1) :=
  def_ok hF sc__law_feed rfl he fun cdv A outer s H E hr => (fun (c : Cok (JJ G) (cxOf (L2.CX P w) P w K mg base n__law_feed "_law_feed" (defScope s__law_feed) fa cdv A outer s H E) (fun cls dd _ H' => E cls dd H') F Fi k) =>
    (ss_one (ss_ret (sx_lstC (sa_cons (sx_comp c (own := [("cell", 1)]) (si_any (I := II G K) (sx_sl (I := II G K) (sx_var (pv 0)) so_none (so_some sx_int))) (by decide) (blkOk_by (N := n__law_feed) (sc := defScope s__law_feed) (by decide +kernel)) (fun _ _ _ _ _ => (sg_nm (c.blk _ _ _ _ _).nd)) (fun _ _ _ _ _ => sts_nil) (fun _ _ _ _ _ => (sx_fn (c_abs (I := II G K)) (c.blk _ _ _ _ _) rfl bt_abs (sa_cons (sx_var (pv 1)) sa_nil)))) (sa_cons sx_int (sa_cons sx_int (sa_cons (sx_op (o_own c (f := i_Ratio___add__) (c := 0) rfl rfl (o_add (I := II G K))) sx_int (sx_fn (c_len (I := II G K)) c rfl bt_len (sa_cons (sx_var (pv 0)) sa_nil))) sa_nil)))))))) (cok_of T sc__law_feed hr)
theorem ok__law_draw (hF : Fun K "_law_draw" "_law_draw" s__law_draw fa fd) (T : Tb (JJ G) P w K mg base F Fi k) (he : ∀ ws S, F1 i__law_draw ws S = runDef 5 2 (c__law_draw F Fi) ws S) : FnOk P w K mg base (L2.CX P w) (k + 2) fa fd [("feed" : Str), ("limit" : Str)] (spOf (II G K) F1 i__law_draw 2) :=
  def_ok hF sc__law_draw rfl he fun cdv A outer s H E hr => (fun (c : Cok (JJ G) (cxOf (L2.CX P w) P w K mg base n__law_draw "_law_draw" (defScope s__law_draw) fa cdv A outer s H E) (fun cls dd _ H' => E cls dd H') F Fi k) =>
    (ss_cons (ss_set c.nd (sx_ix (I := II G K) (sx_var (pv 0)) sx_int)) (ss_cons (ss_if (st_and (st_cmp (o_ownEq c (f := i_Ratio___eq__) (c := 0) rfl (o_eqG (I := II G K) (units64 c.room))) (sx_ix (I := II G K) (sx_var (pv 0)) sx_int) sx_int) (st_and1 (st_cmp (o_lt (I := II G K)) (sx_ix (I := II G K) (sx_var (pv 0)) sx_int) (sx_fn (c_len (I := II G K)) c rfl bt_len (sa_cons (sx_var (pv 2)) sa_nil))))).pt (ss_cons (ss_set c.nd (sx_ix (I := II G K) (sx_var (pv 2)) (sx_ix (I := II G K) (sx_var (pv 0)) sx_int))) (ss_cons (ss_sub (sx_op (o_own c (f := i_Ratio___add__) (c := 0) rfl rfl (o_add (I := II G K))) (sx_ix (I := II G K) (sx_var (pv 0)) sx_int) sx_int) (sx_var (pv 0)) sx_int) (ss_one (ss_if (st_cmp (o_ge (I := II G K)) (sx_var (pv 3)) (sx_op (o_pow (I := II G K)) sx_int sx_int)) (ss_one (ss_sub (sx_var (pv 3)) (sx_var (pv 0)) sx_int)) (ss_one (ss_sub (sx_op (o_mod (I := II G K)) (sx_ty (c_int (I := II G K)) c rfl bt_int (sa_cons (sx_op (o_own c (f := i_Ratio___add__) (c := 0) rfl rfl (o_add (I := II G K))) (sx_op (o_own c (f := i_Ratio___add__) (c := 0) rfl rfl (o_add (I := II G K))) (sx_op (o_own c (f := i_Ratio___mul__) (c := 0) rfl rfl (o_mul (I := II G K))) (sx_ix (I := II G K) (sx_var (pv 0)) sx_int) sx_int) (sx_op (o_own c (f := i_Ratio___mul__) (c := 0) rfl rfl (o_mul (I := II G K))) (sx_var (pv 3)) sx_int)) sx_int) sa_nil)) sx_int) (sx_var (pv 0)) sx_int)))))) ss_nil) (ss_cons (ss_if (st_cmp (o_gt (I := II G K)) (sx_ix (I := II G K) (sx_var (pv 0)) sx_int) sx_int) (ss_cons (ss_set c.nd (sx_op (o_mod (I := II G K)) (sx_ty (c_int (I := II G K)) c rfl bt_int (sa_cons (sx_ix (I := II G K) (sx_var (pv 0)) sx_int) sa_nil)) (sx_var (pv 1)))) (ss_cons (ss_sub (sx_op (o_div (I := II G K)) (sx_ix (I := II G K) (sx_var (pv 0)) sx_int) (sx_var (pv 1))) (sx_var (pv 0)) sx_int) (ss_one (ss_ret (sx_var (pv 4)))))) ss_nil) (ss_cons (ss_sub (sx_op (o_mod (I := II G K)) (sx_ty (c_int (I := II G K)) c rfl bt_int (sa_cons (sx_op (o_own c (f := i_Ratio___add__) (c := 0) rfl rfl (o_add (I := II G K))) (sx_op (o_own c (f := i_Ratio___mul__) (c := 0) rfl rfl (o_mul (I := II G K))) (sx_ix (I := II G K) (sx_var (pv 0)) sx_int) sx_int) sx_int) sa_nil)) sx_int) (sx_var (pv 0)) sx_int) (ss_one (ss_ret (sx_op (o_mod (I := II G K)) (sx_ty (c_int (I := II G K)) c rfl bt_int (sa_cons (sx_op (o_own c (f := i_Ratio___add__) (c := 0) rfl rfl (o_add (I := II G K))) (sx_op (o_div (I := II G K)) (sx_op (o_own c (f := i_Ratio___mul__) (c := 0) rfl rfl (o_mul (I := II G K))) (sx_ix (I := II G K) (sx_var (pv 0)) sx_int) (sx_ix (I := II G K) (sx_var (pv 0)) sx_int)) sx_int) (sx_op (o_div (I := II G K)) (sx_ix (I := II G K) (sx_var (pv 0)) sx_int) sx_int)) sa_nil)) (sx_var (pv 1)))))))))) (cok_of T sc__law_draw hr)
theorem ok__law_great (hF : Fun K "_law_great" "_law_great" s__law_great fa fd) (T : Tb (JJ G) P w K mg base F Fi k) (he : ∀ ws S, F1 i__law_great ws S = runDef 4 2 (c__law_great F Fi) ws S) : FnOk P w K mg base (L2.CX P w) (k + 2) fa fd [("feed" : Str), ("parts" : Str)] (spOf (II G K) F1 i__law_great 2) :=
  def_ok hF sc__law_great rfl he fun cdv A outer s H E hr => (fun (c : Cok (JJ G) (cxOf (L2.CX P w) P w K mg base n__law_great "_law_great" (defScope s__law_great) fa cdv A outer s H E) (fun cls dd _ H' => E cls dd H') F Fi k) =>
    (ss_cons (ss_set c.nd sx_int) (ss_cons (ss_for c (si_range1 c rfl (sx_var (pv 1))) (sg_nm c.nd) (ss_one (ss_set c.nd (sx_op (o_own c (f := i_Ratio___add__) (c := 0) rfl rfl (o_add (I := II G K))) (sx_op (o_own c (f := i_Ratio___mul__) (c := 0) rfl rfl (o_mul (I := II G K))) (sx_var (pv 2)) sx_int) (sx_call c (f := i__law_draw) rfl (sa_cons (sx_var (pv 0)) (sa_cons sx_int sa_nil))))))) (ss_one (ss_ret (sx_var (pv 2))))))) (cok_of T sc__law_great hr)
theorem ok__law_pair (hF : Fun K "_law_pair" "_law_pair" s__law_pair fa fd) (T : Tb (JJ G) P w K mg base F Fi k) (he : ∀ ws S, F1 i__law_pair ws S = runDef 4 2 (c__law_pair F Fi) ws S) : FnOk P w K mg base (L2.CX P w) (k + 2) fa fd [("above" : Str), ("below" : Str)] (spOf (II G K) F1 i__law_pair 2) :=
  def_ok hF sc__law_pair rfl he fun cdv A outer s H E hr => (fun (c : Cok (JJ G) (cxOf (L2.CX P w) P w K mg base n__law_pair "_law_pair" (defScope s__law_pair) fa cdv A outer s H E) (fun cls dd _ H' => E cls dd H') F Fi k) =>
    (ss_cons (ss_set c.nd (sx_fn (c_abs (I := II G K)) c rfl bt_abs (sa_cons (sx_var (pv 0)) sa_nil))) (ss_cons (ss_set c.nd (sx_fn (c_abs (I := II G K)) c rfl bt_abs (sa_cons (sx_var (pv 1)) sa_nil))) (ss_cons (ss_while c (st_cmp (o_gt (I := II G K)) (sx_var (pv 3)) sx_int) (ss_one (ss_par c.calm c.nd (by decide) (sx_var (pv 3)) (sx_op (o_mod (I := II G K)) (sx_ty (c_int (I := II G K)) c rfl bt_int (sa_cons (sx_var (pv 2)) sa_nil)) (sx_var (pv 3)))))) (ss_cons (ss_if (st_cmp (o_lt (I := II G K)) (sx_var (pv 1)) sx_int) (ss_one (ss_set c.nd (sx_op (o_own c (f := i_Ratio___sub__) (c := 0) rfl rfl (o_sub (I := II G K))) sx_int (sx_var (pv 2))))) ss_nil) (ss_one (ss_ret (sx_tup (sa_cons (sx_op (o_div (I := II G K)) (sx_var (pv 0)) (sx_var (pv 2))) (sa_cons (sx_op (o_div (I := II G K)) (sx_var (pv 1)) (sx_var (pv 2))) sa_nil)))))))))) (cok_of T sc__law_pair hr)
theorem ok__law_fraction (hF : Fun K "_law_fraction" "_law_fraction" s__law_fraction fa fd) (T : Tb (JJ G) P w K mg base F Fi k) (he : ∀ ws S, F1 i__law_fraction ws S = runDef 5 2 (c__law_fraction F Fi) ws S) : FnOk P w K mg base (L2.CX P w) (k + 2) fa fd [("feed" : Str), ("parts" : Str)] (spOf (II G K) F1 i__law_fraction 2) :=
  def_ok hF sc__law_fraction rfl he fun cdv A outer s H E hr => (fun (c : Cok (JJ G) (cxOf (L2.CX P w) P w K mg base n__law_fraction "_law_fraction" (defScope s__law_fraction) fa cdv A outer s H E) (fun cls dd _ H' => E cls dd H') F Fi k) =>
    (ss_cons (ss_set c.nd (sx_op (o_own c (f := i_Ratio___sub__) (c := 0) rfl rfl (o_sub (I := II G K))) (sx_call c (f := i__law_draw) rfl (sa_cons (sx_var (pv 0)) (sa_cons sx_int sa_nil))) sx_int)) (ss_cons (ss_set c.nd (sx_op (o_own c (f := i_Ratio___add__) (c := 0) rfl rfl (o_add (I := II G K))) sx_int (sx_call c (f := i__law_draw) rfl (sa_cons (sx_var (pv 0)) (sa_cons sx_int sa_nil))))) (ss_cons (ss_set c.nd (sx_call c (f := i__law_draw) rfl (sa_cons (sx_var (pv 0)) (sa_cons sx_int sa_nil)))) (ss_cons (ss_if (st_cmp (o_gt (I := II G K)) (sx_var (pv 4)) sx_int) (ss_one (ss_set c.nd (sx_op (o_own c (f := i_Ratio___mul__) (c := 0) rfl rfl (o_mul (I := II G K))) (sx_call c (f := i__law_great) rfl (sa_cons (sx_var (pv 0)) (sa_cons (sx_var (pv 1)) sa_nil))) (sx_op (o_own c (f := i_Ratio___sub__) (c := 0) rfl rfl (o_sub (I := II G K))) sx_int (sx_op (o_own c (f := i_Ratio___mul__) (c := 0) rfl rfl (o_mul (I := II G K))) sx_int (sx_call c (f := i__law_draw) rfl (sa_cons (sx_var (pv 0)) (sa_cons sx_int sa_nil)))))))) ss_nil) (ss_cons (ss_if (st_cmp (o_ownEq c (f := i_Ratio___eq__) (c := 0) rfl (o_eqG (I := II G K) (units64 c.room))) (sx_var (pv 4)) sx_int) (ss_one (ss_set c.nd (sx_fn (c_max2 (I := II G K) c.calm) c rfl bt_max (sa_cons sx_int (sa_cons (sx_call c (f := i__law_great) rfl (sa_cons (sx_var (pv 0)) (sa_cons (sx_var (pv 1)) sa_nil))) sa_nil))))) ss_nil) (ss_one (ss_ret (sx_tup (sa_cons (sx_var (pv 2)) (sa_cons (sx_var (pv 3)) sa_nil))))))))))) (cok_of T sc__law_fraction hr)
theorem ok__law_text (hF : Fun K "_law_text" "_law_text" s__law_text fa fd) (T : Tb (JJ G) P w K mg base F Fi k) (he : ∀ ws S, F1 i__law_text ws S = runDef 1 1 (c__law_text F Fi) ws S) : FnOk P w K mg base (L2.CX P w) (k + 2) fa fd [("one" : Str)] (spOf (II G K) F1 i__law_text 1) :=
  def_ok hF sc__law_text rfl he fun cdv A outer s H E hr => (fun (c : Cok (JJ G) (cxOf (L2.CX P w) P w K mg base n__law_text "_law_text" (defScope s__law_text) fa cdv A outer s H E) (fun cls dd _ H' => E cls dd H') F Fi k) =>
    (ss_cons (ss_if (st_cmp (o_ownEq c (f := i_Ratio___eq__) (c := 0) rfl (o_eqG (I := II G K) (units64 c.room))) (sx_ix (I := II G K) (sx_var (pv 0)) sx_int) sx_int) (ss_one (ss_ret (sx_ty (c_str (I := II G K)) c rfl bt_str (sa_cons (sx_ix (I := II G K) (sx_var (pv 0)) sx_int) sa_nil)))) ss_nil) (ss_one (ss_ret (sx_op (o_own c (f := i_Ratio___add__) (c := 0) rfl rfl (o_add (I := II G K))) (sx_op (o_own c (f := i_Ratio___add__) (c := 0) rfl rfl (o_add (I := II G K))) (sx_ty (c_str (I := II G K)) c rfl bt_str (sa_cons (sx_ix (I := II G K) (sx_var (pv 0)) sx_int) sa_nil)) sx_str) (sx_ty (c_str (I := II G K)) c rfl bt_str (sa_cons (sx_ix (I := II G K) (sx_var (pv 0)) sx_int) sa_nil))))))) (cok_of T sc__law_text hr)
theorem ok__law_told (hF : Fun K "_law_told" "_law_told" s__law_told fa fd) (T : Tb (JJ G) P w K mg base F Fi k) (he : ∀ ws S, F1 i__law_told ws S = runDef 2 2 (c__law_told F Fi) ws S) : FnOk P w K mg base (L2.CX P w) (k + 2) fa fd [("actual" : Str), ("due" : Str)] (spOf (II G K) F1 i__law_told 2) :=
  def_ok hF sc__law_told rfl he fun cdv A outer s H E hr => (fun (c : Cok (JJ G) (cxOf (L2.CX P w) P w K mg base n__law_told "_law_told" (defScope s__law_told) fa cdv A outer s H E) (fun cls dd _ H' => E cls dd H') F Fi k) =>
    (ss_one (ss_ret (sx_and (sx_isT (T' := Ty.bl) c rfl (by decide) rfl rfl bt_bool (sx_var (pv 0))) (sx_one (sx_cmp (o_ownEq c (f := i_Ratio___eq__) (c := 0) rfl (o_eqG (I := II G K) (units64 c.room))) (sx_var (pv 0)) (sx_var (pv 1)))))))) (cok_of T sc__law_told hr)
theorem ok__law_alone (hF : Fun K "_law_alone" "_law_alone" s__law_alone fa fd) (T : Tb (JJ G) P w K mg base F Fi k) (he : ∀ ws S, F1 i__law_alone ws S = runDef 4 2 (c__law_alone F Fi) ws S) : FnOk P w K mg base (L2.CX P w) (k + 2) fa fd [("made" : Str), ("due" : Str)] (spOf (II G K) F1 i__law_alone 2) :=
  def_ok hF sc__law_alone rfl he fun cdv A outer s H E hr => (fun (c : Cok (JJ G) (cxOf (L2.CX P w) P w K mg base n__law_alone "_law_alone" (defScope s__law_alone) fa cdv A outer s H E) (fun cls dd _ H' => E cls dd H') F Fi k) =>
    (ss_cons (ss_set c.nd (sx_meth0 c (f := i_Ratio_text) (c := 0) rfl (by decide +kernel : ("text" : Str) ∉ SG.fl 0) (sx_var (pv 0)))) (ss_cons (ss_if (st_or (st_not (st_tr (truO_ne _ _ _) (tr_own c (f := i_Ratio___bool__) (c := 0) rfl) (sx_isT (T' := Ty.str) c rfl (by decide) rfl rfl bt_str (sx_var (pv 2))))) (st_or1 (st_cmp (o_neG (I := II G K) (units64 c.room)) (sx_var (pv 2)) (sx_call c (f := i__law_text) rfl (sa_cons (sx_var (pv 1)) sa_nil))))).pt (ss_one (ss_ret sx_bl)) ss_nil) (ss_cons (ss_if (st_or (st_not (st_tr (truO_ne _ _ _) (tr_own c (f := i_Ratio___bool__) (c := 0) rfl) (sx_call c (f := i__law_told) rfl (sa_cons (sx_prop c (f := i_Ratio_is_whole) (cc := 0) rfl (sx_var (pv 0))) (sa_cons (sx_cmp (o_ownEq c (f := i_Ratio___eq__) (c := 0) rfl (o_eqG (I := II G K) (units64 c.room))) (sx_ix (I := II G K) (sx_var (pv 1)) sx_int) sx_int) sa_nil))))) (st_or1 (st_cmp (o_neG (I := II G K) (units64 c.room)) (sx_ty (c_boolO c (f := i_Ratio___bool__) (c := 0) rfl) c rfl bt_bool (sa_cons (sx_var (pv 0)) sa_nil)) (sx_cmp (o_neG (I := II G K) (units64 c.room)) (sx_ix (I := II G K) (sx_var (pv 1)) sx_int) sx_int)))).pt (ss_one (ss_ret sx_bl)) ss_nil) (ss_cons (ss_for c (si_any (I := II G K) (sx_lst (sa_cons (sx_ix (I := II G K) (sx_var (pv 1)) sx_int) (sa_cons (sx_var (pv 1)) (sa_cons (sx_call c (f := i__law_text) rfl (sa_cons (sx_var (pv 1)) sa_nil)) (sa_cons sx_non (sa_cons (sx_lst (sa_cons (sx_ix (I := II G K) (sx_var (pv 1)) sx_int) (sa_cons (sx_ix (I := II G K) (sx_var (pv 1)) sx_int) sa_nil))) sa_nil))))))) (sg_nm c.nd) (ss_one (ss_if (st_not (st_tr (truO_ne _ _ _) (tr_own c (f := i_Ratio___bool__) (c := 0) rfl) (sx_call c (f := i__law_told) rfl (sa_cons (sx_cmp (o_ownEq c (f := i_Ratio___eq__) (c := 0) rfl (o_eqG (I := II G K) (units64 c.room))) (sx_var (pv 0)) (sx_var (pv 3))) (sa_cons sx_bl sa_nil))))) (ss_one (ss_ret sx_bl)) ss_nil))) (ss_one (ss_ret sx_bl))))))) (cok_of T sc__law_alone hr)
theorem ok_law (hF : Fun K "law" "law" s_law fa fd) (T : Tb (JJ G) P w K mg base F Fi k) (he : ∀ ws S, F1 i_law ws S = runDef 11 1 (c_law F Fi) ws S) : FnOk P w K mg base (L2.CX P w) (k + 2) fa fd [("script" : Str)] (spOf (II G K) F1 i_law 1) :=
  def_ok hF sc_law rfl he fun cdv A outer s H E hr => (fun (c : Cok (JJ G) (cxOf (L2.CX P w) P w K mg base n_law "law" (defScope s_law) fa cdv A outer s H E) (fun cls dd _ H' => E cls dd H') F Fi k) =>
    (ss_cons (ss_set c.nd (sx_call c (f := i__law_feed) rfl (sa_cons (sx_var (pv 0)) sa_nil))) (ss_cons (ss_set c.nd (sx_ix (I := II G K) (sx_lst (sa_cons sx_int (sa_cons sx_int (sa_cons sx_int sa_nil)))) (sx_call c (f := i__law_draw) rfl (sa_cons (sx_var (pv 1)) (sa_cons sx_int sa_nil))))) (ss_cons (ss_set c.nd (sx_call c (f := i__law_fraction) rfl (sa_cons (sx_var (pv 1)) (sa_cons (sx_var (pv 2)) sa_nil)))) (ss_cons (ss_set c.nd (sx_call c (f := i__law_fraction) rfl (sa_cons (sx_var (pv 1)) (sa_cons (sx_var (pv 2)) sa_nil)))) (ss_cons (ss_set c.nd (sx_call c (f := i__law_draw) rfl (sa_cons (sx_var (pv 1)) (sa_cons sx_int sa_nil)))) (ss_cons (ss_if (st_cmp (o_lt (I := II G K)) (sx_var (pv 5)) sx_int) (ss_one (ss_set c.nd (sx_ix (I := II G K) (sx_lst (sa_cons (sx_var (pv 3)) (sa_cons (sx_tup (sa_cons (sx_op (o_own c (f := i_Ratio___sub__) (c := 0) rfl rfl (o_sub (I := II G K))) sx_int (sx_ix (I := II G K) (sx_var (pv 3)) sx_int)) (sa_cons (sx_ix (I := II G K) (sx_var (pv 3)) sx_int) sa_nil))) (sa_cons (sx_tup (sa_cons (sx_op (o_own c (f := i_Ratio___add__) (c := 0) rfl rfl (o_add (I := II G K))) (sx_ix (I := II G K) (sx_var (pv 3)) sx_int) sx_int) (sa_cons (sx_ix (I := II G K) (sx_var (pv 3)) sx_int) sa_nil))) (sa_cons (sx_tup (sa_cons (sx_op (o_own c (f := i_Ratio___sub__) (c := 0) rfl rfl (o_sub (I := II G K))) (sx_ix (I := II G K) (sx_var (pv 3)) sx_int) sx_int) (sa_cons (sx_ix (I := II G K) (sx_var (pv 3)) sx_int) sa_nil))) sa_nil))))) (sx_var (pv 5))))) ss_nil) (ss_cons (ss_set c.nd (sx_call c (f := i__law_pair) rfl (sa_cons (sx_ix (I := II G K) (sx_var (pv 3)) sx_int) (sa_cons (sx_ix (I := II G K) (sx_var (pv 3)) sx_int) sa_nil)))) (ss_cons (ss_set c.nd (sx_call c (f := i__law_pair) rfl (sa_cons (sx_ix (I := II G K) (sx_var (pv 4)) sx_int) (sa_cons (sx_ix (I := II G K) (sx_var (pv 4)) sx_int) sa_nil)))) (ss_cons (ss_set c.nd (sx_mkF c (x := "Ratio") (dfl := []) (dvs := []) rfl (by decide +kernel) (fun _ => .nil) rfl (sa_cons (sx_ix (I := II G K) (sx_var (pv 3)) sx_int) (sa_cons (sx_ix (I := II G K) (sx_var (pv 3)) sx_int) sa_nil)))) (ss_cons (ss_set c.nd (sx_mkF c (x := "Ratio") (dfl := []) (dvs := []) rfl (by decide +kernel) (fun _ => .nil) rfl (sa_cons (sx_ix (I := II G K) (sx_var (pv 4)) sx_int) (sa_cons (sx_ix (I := II G K) (sx_var (pv 4)) sx_int) sa_nil)))) (ss_cons (ss_for c (si_range1 c rfl sx_int) (sg_nm c.nd) (ss_cons (ss_if (st_or (st_not (st_tr (truO_ne _ _ _) (tr_own c (f := i_Ratio___bool__) (c := 0) rfl) (sx_call c (f := i__law_alone) rfl (sa_cons (sx_var (pv 8)) (sa_cons (sx_var (pv 6)) sa_nil))))) (st_or1 (st_not (st_tr (truO_ne _ _ _) (tr_own c (f := i_Ratio___bool__) (c := 0) rfl) (sx_call c (f := i__law_alone) rfl (sa_cons (sx_var (pv 9)) (sa_cons (sx_var (pv 7)) sa_nil))))))).pt (ss_one (ss_ret sx_bl)) ss_nil) (ss_cons (ss_if (st_or (st_not (st_tr (truO_ne _ _ _) (tr_own c (f := i_Ratio___bool__) (c := 0) rfl) (sx_call c (f := i__law_told) rfl (sa_cons (sx_cmp (o_ownEq c (f := i_Ratio___eq__) (c := 0) rfl (o_eqG (I := II G K) (units64 c.room))) (sx_var (pv 8)) (sx_var (pv 9))) (sa_cons (sx_cmp (o_ownEq c (f := i_Ratio___eq__) (c := 0) rfl (o_eqG (I := II G K) (units64 c.room))) (sx_var (pv 6)) (sx_var (pv 7))) sa_nil))))) (st_or1 (st_not (st_tr (truO_ne _ _ _) (tr_own c (f := i_Ratio___bool__) (c := 0) rfl) (sx_call c (f := i__law_told) rfl (sa_cons (sx_cmp (o_ownEq c (f := i_Ratio___eq__) (c := 0) rfl (o_eqG (I := II G K) (units64 c.room))) (sx_var (pv 9)) (sx_var (pv 8))) (sa_cons (sx_cmp (o_ownEq c (f := i_Ratio___eq__) (c := 0) rfl (o_eqG (I := II G K) (units64 c.room))) (sx_var (pv 6)) (sx_var (pv 7))) sa_nil))))))).pt (ss_one (ss_ret sx_bl)) ss_nil) (ss_cons (ss_if (st_not (st_tr (truO_ne _ _ _) (tr_own c (f := i_Ratio___bool__) (c := 0) rfl) (sx_call c (f := i__law_told) rfl (sa_cons (sx_meth c (f := i_Ratio_is_less) (c := 0) rfl (by decide +kernel : ("is_less" : Str) ∉ SG.fl 0) (sx_var (pv 8)) (sa_cons (sx_var (pv 9)) sa_nil)) (sa_cons (sx_cmp (o_lt (I := II G K)) (sx_op (o_own c (f := i_Ratio___mul__) (c := 0) rfl rfl (o_mul (I := II G K))) (sx_ix (I := II G K) (sx_var (pv 6)) sx_int) (sx_ix (I := II G K) (sx_var (pv 7)) sx_int)) (sx_op (o_own c (f := i_Ratio___mul__) (c := 0) rfl rfl (o_mul (I := II G K))) (sx_ix (I := II G K) (sx_var (pv 7)) sx_int) (sx_ix (I := II G K) (sx_var (pv 6)) sx_int))) sa_nil))))) (ss_one (ss_ret sx_bl)) ss_nil) (ss_cons (ss_if (st_not (st_tr (truO_ne _ _ _) (tr_own c (f := i_Ratio___bool__) (c := 0) rfl) (sx_call c (f := i__law_told) rfl (sa_cons (sx_meth c (f := i_Ratio_is_less) (c := 0) rfl (by decide +kernel : ("is_less" : Str) ∉ SG.fl 0) (sx_var (pv 9)) (sa_cons (sx_var (pv 8)) sa_nil)) (sa_cons (sx_cmp (o_lt (I := II G K)) (sx_op (o_own c (f := i_Ratio___mul__) (c := 0) rfl rfl (o_mul (I := II G K))) (sx_ix (I := II G K) (sx_var (pv 7)) sx_int) (sx_ix (I := II G K) (sx_var (pv 6)) sx_int)) (sx_op (o_own c (f := i_Ratio___mul__) (c := 0) rfl rfl (o_mul (I := II G K))) (sx_ix (I := II G K) (sx_var (pv 6)) sx_int) (sx_ix (I := II G K) (sx_var (pv 7)) sx_int))) sa_nil))))) (ss_one (ss_ret sx_bl)) ss_nil) (ss_one (ss_if (st_or (st_not (st_tr (truO_ne _ _ _) (tr_own c (f := i_Ratio___bool__) (c := 0) rfl) (sx_call c (f := i__law_told) rfl (sa_cons (sx_meth c (f := i_Ratio_is_less) (c := 0) rfl (by decide +kernel : ("is_less" : Str) ∉ SG.fl 0) (sx_var (pv 8)) (sa_cons (sx_var (pv 8)) sa_nil)) (sa_cons sx_bl sa_nil))))) (st_or1 (st_not (st_tr (truO_ne _ _ _) (tr_own c (f := i_Ratio___bool__) (c := 0) rfl) (sx_call c (f := i__law_told) rfl (sa_cons (sx_cmp (o_ownEq c (f := i_Ratio___eq__) (c := 0) rfl (o_eqG (I := II G K) (units64 c.room))) (sx_var (pv 8)) (sx_var (pv 8))) (sa_cons sx_bl sa_nil))))))).pt (ss_one (ss_ret sx_bl)) ss_nil))))))) (ss_one (ss_ret sx_bl)))))))))))))) (cok_of T sc_law hr)
end
end Lw
namespace Lw
open PySem PySem.Spec PyProof.Rows L2 Py
theorem all_mk {l : PySem.W.OpenLaw} {w : World} {K : PySem.W.Frag} {h : Heap} {mg : Str → Option Value} {fa : Addr} (X : K.In h) (GG : h.Ns mainGlobals mg) (hfa : mg "law" = some (.ref fa))
    {C0 : Addr}
    {f0 : Addr}
    {od0 an0 : Option Addr}
    {sl0 : Array (Option Value)}
    {oc0 kV0 dc0 pm0 cd0 ct0 : Value}
    {f1 : Addr}
    {od1 an1 : Option Addr}
    {sl1 : Array (Option Value)}
    {oc1 kV1 dc1 pm1 cd1 ct1 : Value}
    {dT1 : Addr}
    {dto1 : Option Addr}
    {dtc1 : Value}
    {dts1 : Array (Option Value)}
    {dtn1 : Nat}
    {dk1_0 : Tok}
    {f2 : Addr}
    {od2 an2 : Option Addr}
    {sl2 : Array (Option Value)}
    {oc2 kV2 dc2 pm2 cd2 ct2 : Value}
    {f3 : Addr}
    {od3 an3 : Option Addr}
    {sl3 : Array (Option Value)}
    {oc3 kV3 dc3 pm3 cd3 ct3 : Value}
    {f4 : Addr}
    {od4 an4 : Option Addr}
    {sl4 : Array (Option Value)}
    {oc4 kV4 dc4 pm4 cd4 ct4 : Value}
    {f5 : Addr}
    {od5 an5 : Option Addr}
    {sl5 : Array (Option Value)}
    {oc5 kV5 dc5 pm5 cd5 ct5 : Value}
    {f6 : Addr}
    {od6 an6 : Option Addr}
    {sl6 : Array (Option Value)}
    {oc6 kV6 dc6 pm6 cd6 ct6 : Value}
    {f7 : Addr}
    {od7 an7 : Option Addr}
    {sl7 : Array (Option Value)}
    {oc7 kV7 dc7 pm7 cd7 ct7 : Value}
    {f8 : Addr}
    {od8 an8 : Option Addr}
    {sl8 : Array (Option Value)}
    {oc8 kV8 dc8 pm8 cd8 ct8 : Value}
    {f9 : Addr}
    {od9 an9 : Option Addr}
    {sl9 : Array (Option Value)}
    {oc9 kV9 dc9 pm9 cd9 ct9 : Value}
    {pr9 : Addr}
    {rest9 : List Value}
    {f10 : Addr}
    {od10 an10 : Option Addr}
    {sl10 : Array (Option Value)}
    {oc10 kV10 dc10 pm10 cd10 ct10 : Value}
    {f11 : Addr}
    {od11 an11 : Option Addr}
    {sl11 : Array (Option Value)}
    {oc11 kV11 dc11 pm11 cd11 ct11 : Value}
    {f12 : Addr}
    {od12 an12 : Option Addr}
    {sl12 : Array (Option Value)}
    {oc12 kV12 dc12 pm12 cd12 ct12 : Value}
    {f13 : Addr}
    {od13 an13 : Option Addr}
    {sl13 : Array (Option Value)}
    {oc13 kV13 dc13 pm13 cd13 ct13 : Value}
    {f14 : Addr}
    {od14 an14 : Option Addr}
    {sl14 : Array (Option Value)}
    {oc14 kV14 dc14 pm14 cd14 ct14 : Value}
    {f15 : Addr}
    {od15 an15 : Option Addr}
    {sl15 : Array (Option Value)}
    {oc15 kV15 dc15 pm15 cd15 ct15 : Value}
    {f16 : Addr}
    {od16 an16 : Option Addr}
    {sl16 : Array (Option Value)}
    {oc16 kV16 dc16 pm16 cd16 ct16 : Value}
    {f17 : Addr}
    {od17 an17 : Option Addr}
    {sl17 : Array (Option Value)}
    {oc17 kV17 dc17 pm17 cd17 ct17 : Value}
    {f18 : Addr}
    {od18 an18 : Option Addr}
    {sl18 : Array (Option Value)}
    {oc18 kV18 dc18 pm18 cd18 ct18 : Value}
    {f19 : Addr}
    {od19 an19 : Option Addr}
    {sl19 : Array (Option Value)}
    {oc19 kV19 dc19 pm19 cd19 ct19 : Value}
    (h_aC0 : PySem.W.nsIn K mainGlobals ("Ratio" : Str) = some (some (.ref C0)))
    (h_a0 : PySem.W.nsIn K mainGlobals ("shared_part" : Str) = some (some (.ref f0)))
    (h_l0 : K.lookup f0 = some ⟨oc0, od0, .func (PySem.W.fnOf "shared_part" "shared_part" (defArgs s_shared_part) (defBody s_shared_part) (defScope s_shared_part) .none kV0 dc0 pm0 an0 cd0 ct0), sl0⟩)
    (h_c0 : PySem.W.codeIn K cd0 "shared_part" = true)
    (h_k0 : PySem.W.keepIn K (.ref f0) = true)
    (h_a1 : PySem.W.findIn K (.ref C0) ("__init__" : Str) = some (some (.ref f1)))
    (h_i1 : PySem.W.isFn K (.ref f1) = true)
    (h_l1 : K.lookup f1 = some ⟨oc1, od1, .func (PySem.W.fnOf "__init__" "Ratio.__init__" (defArgs s_Ratio___init__) (defBody s_Ratio___init__) (defScope s_Ratio___init__) (.ref dT1) kV1 dc1 pm1 an1 cd1 ct1), sl1⟩)
    (h_d1 : K.lookup dT1 = some ⟨dtc1, dto1, .seq ([Value.int 1 dk1_0] : List Value).toArray dtn1, dts1⟩)
    (h_c1 : PySem.W.codeIn K cd1 "Ratio.__init__" = true)
    (h_k1 : PySem.W.keepIn K (.ref f1) = true)
    (h_a2 : PySem.W.findIn K (.ref C0) ("__add__" : Str) = some (some (.ref f2)))
    (h_i2 : PySem.W.isFn K (.ref f2) = true)
    (h_l2 : K.lookup f2 = some ⟨oc2, od2, .func (PySem.W.fnOf "__add__" "Ratio.__add__" (defArgs s_Ratio___add__) (defBody s_Ratio___add__) (defScope s_Ratio___add__) .none kV2 dc2 pm2 an2 cd2 ct2), sl2⟩)
    (h_c2 : PySem.W.codeIn K cd2 "Ratio.__add__" = true)
    (h_k2 : PySem.W.keepIn K (.ref f2) = true)
    (h_a3 : PySem.W.findIn K (.ref C0) ("__sub__" : Str) = some (some (.ref f3)))
    (h_i3 : PySem.W.isFn K (.ref f3) = true)
    (h_l3 : K.lookup f3 = some ⟨oc3, od3, .func (PySem.W.fnOf "__sub__" "Ratio.__sub__" (defArgs s_Ratio___sub__) (defBody s_Ratio___sub__) (defScope s_Ratio___sub__) .none kV3 dc3 pm3 an3 cd3 ct3), sl3⟩)
    (h_c3 : PySem.W.codeIn K cd3 "Ratio.__sub__" = true)
    (h_k3 : PySem.W.keepIn K (.ref f3) = true)
    (h_a4 : PySem.W.findIn K (.ref C0) ("__mul__" : Str) = some (some (.ref f4)))
    (h_i4 : PySem.W.isFn K (.ref f4) = true)
    (h_l4 : K.lookup f4 = some ⟨oc4, od4, .func (PySem.W.fnOf "__mul__" "Ratio.__mul__" (defArgs s_Ratio___mul__) (defBody s_Ratio___mul__) (defScope s_Ratio___mul__) .none kV4 dc4 pm4 an4 cd4 ct4), sl4⟩)
    (h_c4 : PySem.W.codeIn K cd4 "Ratio.__mul__" = true)
    (h_k4 : PySem.W.keepIn K (.ref f4) = true)
    (h_a5 : PySem.W.findIn K (.ref C0) ("__neg__" : Str) = some (some (.ref f5)))
    (h_i5 : PySem.W.isFn K (.ref f5) = true)
    (h_l5 : K.lookup f5 = some ⟨oc5, od5, .func (PySem.W.fnOf "__neg__" "Ratio.__neg__" (defArgs s_Ratio___neg__) (defBody s_Ratio___neg__) (defScope s_Ratio___neg__) .none kV5 dc5 pm5 an5 cd5 ct5), sl5⟩)
    (h_c5 : PySem.W.codeIn K cd5 "Ratio.__neg__" = true)
    (h_k5 : PySem.W.keepIn K (.ref f5) = true)
    (h_a6 : PySem.W.findIn K (.ref C0) ("__eq__" : Str) = some (some (.ref f6)))
    (h_i6 : PySem.W.isFn K (.ref f6) = true)
    (h_l6 : K.lookup f6 = some ⟨oc6, od6, .func (PySem.W.fnOf "__eq__" "Ratio.__eq__" (defArgs s_Ratio___eq__) (defBody s_Ratio___eq__) (defScope s_Ratio___eq__) .none kV6 dc6 pm6 an6 cd6 ct6), sl6⟩)
    (h_c6 : PySem.W.codeIn K cd6 "Ratio.__eq__" = true)
    (h_k6 : PySem.W.keepIn K (.ref f6) = true)
    (h_a7 : PySem.W.findIn K (.ref C0) ("__bool__" : Str) = some (some (.ref f7)))
    (h_i7 : PySem.W.isFn K (.ref f7) = true)
    (h_l7 : K.lookup f7 = some ⟨oc7, od7, .func (PySem.W.fnOf "__bool__" "Ratio.__bool__" (defArgs s_Ratio___bool__) (defBody s_Ratio___bool__) (defScope s_Ratio___bool__) .none kV7 dc7 pm7 an7 cd7 ct7), sl7⟩)
    (h_c7 : PySem.W.codeIn K cd7 "Ratio.__bool__" = true)
    (h_k7 : PySem.W.keepIn K (.ref f7) = true)
    (h_a8 : PySem.W.findIn K (.ref C0) ("is_less" : Str) = some (some (.ref f8)))
    (h_i8 : PySem.W.isFn K (.ref f8) = true)
    (h_l8 : K.lookup f8 = some ⟨oc8, od8, .func (PySem.W.fnOf "is_less" "Ratio.is_less" (defArgs s_Ratio_is_less) (defBody s_Ratio_is_less) (defScope s_Ratio_is_less) .none kV8 dc8 pm8 an8 cd8 ct8), sl8⟩)
    (h_c8 : PySem.W.codeIn K cd8 "Ratio.is_less" = true)
    (h_k8 : PySem.W.keepIn K (.ref f8) = true)
    (h_a9 : PySem.W.findIn K (.ref C0) ("is_whole" : Str) = some (some (.ref pr9)))
    (h_pg9 : PySem.W.specialIn K (.ref pr9) "__get__" = some (some (.builtin "property.__get__")))
    (h_pt9 : PySem.W.takesIn K (.ref pr9) = some true)
    (h_pc9 : PySem.W.recIn K pr9 "property" = some (.ref f9 :: rest9))
    (h_l9 : K.lookup f9 = some ⟨oc9, od9, .func (PySem.W.fnOf "is_whole" "Ratio.is_whole" (defArgs s_Ratio_is_whole) (defBody s_Ratio_is_whole) (defScope s_Ratio_is_whole) .none kV9 dc9 pm9 an9 cd9 ct9), sl9⟩)
    (h_c9 : PySem.W.codeIn K cd9 "Ratio.is_whole" = true)
    (h_k9 : PySem.W.keepIn K (.ref f9) = true)
    (h_a10 : PySem.W.findIn K (.ref C0) ("text" : Str) = some (some (.ref f10)))
    (h_i10 : PySem.W.isFn K (.ref f10) = true)
    (h_l10 : K.lookup f10 = some ⟨oc10, od10, .func (PySem.W.fnOf "text" "Ratio.text" (defArgs s_Ratio_text) (defBody s_Ratio_text) (defScope s_Ratio_text) .none kV10 dc10 pm10 an10 cd10 ct10), sl10⟩)
    (h_c10 : PySem.W.codeIn K cd10 "Ratio.text" = true)
    (h_k10 : PySem.W.keepIn K (.ref f10) = true)
    (h_a11 : PySem.W.nsIn K mainGlobals ("_law_feed" : Str) = some (some (.ref f11)))
    (h_l11 : K.lookup f11 = some ⟨oc11, od11, .func (PySem.W.fnOf "_law_feed" "_law_feed" (defArgs s__law_feed) (defBody s__law_feed) (defScope s__law_feed) .none kV11 dc11 pm11 an11 cd11 ct11), sl11⟩)
    (h_c11 : PySem.W.codeIn K cd11 "_law_feed" = true)
    (h_k11 : PySem.W.keepIn K (.ref f11) = true)
    (h_a12 : PySem.W.nsIn K mainGlobals ("_law_draw" : Str) = some (some (.ref f12)))
    (h_l12 : K.lookup f12 = some ⟨oc12, od12, .func (PySem.W.fnOf "_law_draw" "_law_draw" (defArgs s__law_draw) (defBody s__law_draw) (defScope s__law_draw) .none kV12 dc12 pm12 an12 cd12 ct12), sl12⟩)
    (h_c12 : PySem.W.codeIn K cd12 "_law_draw" = true)
    (h_k12 : PySem.W.keepIn K (.ref f12) = true)
    (h_a13 : PySem.W.nsIn K mainGlobals ("_law_great" : Str) = some (some (.ref f13)))
    (h_l13 : K.lookup f13 = some ⟨oc13, od13, .func (PySem.W.fnOf "_law_great" "_law_great" (defArgs s__law_great) (defBody s__law_great) (defScope s__law_great) .none kV13 dc13 pm13 an13 cd13 ct13), sl13⟩)
    (h_c13 : PySem.W.codeIn K cd13 "_law_great" = true)
    (h_k13 : PySem.W.keepIn K (.ref f13) = true)
    (h_a14 : PySem.W.nsIn K mainGlobals ("_law_pair" : Str) = some (some (.ref f14)))
    (h_l14 : K.lookup f14 = some ⟨oc14, od14, .func (PySem.W.fnOf "_law_pair" "_law_pair" (defArgs s__law_pair) (defBody s__law_pair) (defScope s__law_pair) .none kV14 dc14 pm14 an14 cd14 ct14), sl14⟩)
    (h_c14 : PySem.W.codeIn K cd14 "_law_pair" = true)
    (h_k14 : PySem.W.keepIn K (.ref f14) = true)
    (h_a15 : PySem.W.nsIn K mainGlobals ("_law_fraction" : Str) = some (some (.ref f15)))
    (h_l15 : K.lookup f15 = some ⟨oc15, od15, .func (PySem.W.fnOf "_law_fraction" "_law_fraction" (defArgs s__law_fraction) (defBody s__law_fraction) (defScope s__law_fraction) .none kV15 dc15 pm15 an15 cd15 ct15), sl15⟩)
    (h_c15 : PySem.W.codeIn K cd15 "_law_fraction" = true)
    (h_k15 : PySem.W.keepIn K (.ref f15) = true)
    (h_a16 : PySem.W.nsIn K mainGlobals ("_law_text" : Str) = some (some (.ref f16)))
    (h_l16 : K.lookup f16 = some ⟨oc16, od16, .func (PySem.W.fnOf "_law_text" "_law_text" (defArgs s__law_text) (defBody s__law_text) (defScope s__law_text) .none kV16 dc16 pm16 an16 cd16 ct16), sl16⟩)
    (h_c16 : PySem.W.codeIn K cd16 "_law_text" = true)
    (h_k16 : PySem.W.keepIn K (.ref f16) = true)
    (h_a17 : PySem.W.nsIn K mainGlobals ("_law_told" : Str) = some (some (.ref f17)))
    (h_l17 : K.lookup f17 = some ⟨oc17, od17, .func (PySem.W.fnOf "_law_told" "_law_told" (defArgs s__law_told) (defBody s__law_told) (defScope s__law_told) .none kV17 dc17 pm17 an17 cd17 ct17), sl17⟩)
    (h_c17 : PySem.W.codeIn K cd17 "_law_told" = true)
    (h_k17 : PySem.W.keepIn K (.ref f17) = true)
    (h_a18 : PySem.W.nsIn K mainGlobals ("_law_alone" : Str) = some (some (.ref f18)))
    (h_l18 : K.lookup f18 = some ⟨oc18, od18, .func (PySem.W.fnOf "_law_alone" "_law_alone" (defArgs s__law_alone) (defBody s__law_alone) (defScope s__law_alone) .none kV18 dc18 pm18 an18 cd18 ct18), sl18⟩)
    (h_c18 : PySem.W.codeIn K cd18 "_law_alone" = true)
    (h_k18 : PySem.W.keepIn K (.ref f18) = true)
    (h_a19 : PySem.W.nsIn K mainGlobals ("law" : Str) = some (some (.ref f19)))
    (h_l19 : K.lookup f19 = some ⟨oc19, od19, .func (PySem.W.fnOf "law" "law" (defArgs s_law) (defBody s_law) (defScope s_law) .none kV19 dc19 pm19 an19 cd19 ct19), sl19⟩)
    (h_c19 : PySem.W.codeIn K cd19 "law" = true)
    (h_k19 : PySem.W.keepIn K (.ref f19) = true)
    (h_pg_0 : PySem.W.plainGet K C0 Str.empty = true)
    (h_hd_0 : PySem.W.hasDictIn K C0 = true)
    (h_po_0 : PySem.W.plainOver K C0 = true)
    (h_sa_0 : PySem.W.findIn K (.ref C0) "__setattr__" = some (some (.builtin "object.__setattr__")))
    (h_mk_0 : PySem.W.makesIn K C0 = true)
    (h_kc_0 : PySem.W.keepIn K (.ref C0) = true)
    (h_ta_0 : PySem.W.findIn K (.ref C0) "__class__" = some (some (.builtin "object.__class__")))
    (h_td_0 : PySem.W.mroIn K C0 (.type "object") = some true)
    (h_sf_0 : PySem.W.selfFirst K C0 = true)
    (h_n_0_top : PySem.W.findIn K (.ref C0) ("top" : Str) = some none)
    (h_n_0_bottom : PySem.W.findIn K (.ref C0) ("bottom" : Str) = some none)
    (h_ic_0_0 : PySem.W.kitOne K (.ref C0) (.ref C0) = some (SG.sub 0 0))
    (h_ib_0_NoneType : PySem.W.kitOne K (.type "NoneType") (.ref C0) = some false)
    (h_it_0_NoneType : PySem.W.kitOne K (.ref C0) (.type "NoneType") = some false)
    (h_ib_0_bool : PySem.W.kitOne K (.type "bool") (.ref C0) = some false)
    (h_it_0_bool : PySem.W.kitOne K (.ref C0) (.type "bool") = some false)
    (h_ib_0_int : PySem.W.kitOne K (.type "int") (.ref C0) = some false)
    (h_it_0_int : PySem.W.kitOne K (.ref C0) (.type "int") = some false)
    (h_ib_0_str : PySem.W.kitOne K (.type "str") (.ref C0) = some false)
    (h_it_0_str : PySem.W.kitOne K (.ref C0) (.type "str") = some false)
    (h_ib_0_tuple : PySem.W.kitOne K (.type "tuple") (.ref C0) = some false)
    (h_it_0_tuple : PySem.W.kitOne K (.ref C0) (.type "tuple") = some false)
    (h_ib_0_list : PySem.W.kitOne K (.type "list") (.ref C0) = some false)
    (h_it_0_list : PySem.W.kitOne K (.ref C0) (.type "list") = some false)
    (h_ib_0_dict : PySem.W.kitOne K (.type "dict") (.ref C0) = some false)
    (h_it_0_dict : PySem.W.kitOne K (.ref C0) (.type "dict") = some false)
    (h_tb : PySem.W.specialIn K (.builtin "object.__class__") "__get__" = some (some (.builtin "getset_descriptor.__get__")))
    (h_tc : PySem.W.takesIn K (.builtin "object.__class__") = some true)
    (h_z_abs : PySem.W.nsIn K mainGlobals ("abs" : Str) = some none)
    (h_z_bool : PySem.W.nsIn K mainGlobals ("bool" : Str) = some none)
    (h_z_int : PySem.W.nsIn K mainGlobals ("int" : Str) = some none)
    (h_z_isinstance : PySem.W.nsIn K mainGlobals ("isinstance" : Str) = some none)
    (h_z_len : PySem.W.nsIn K mainGlobals ("len" : Str) = some none)
    (h_z_max : PySem.W.nsIn K mainGlobals ("max" : Str) = some none)
    (h_z_range : PySem.W.nsIn K mainGlobals ("range" : Str) = some none)
    (h_z_str : PySem.W.nsIn K mainGlobals ("str" : Str) = some none)
    : ∃ fd : FuncData, (∀ (s : Shared) (u : Value), BindsTo s fd ⟨[u], []⟩ [("script", u)]) ∧ ∀ base : Heap, K.In base → base.Ns mainGlobals mg → ∃ G : Nat → Option Addr, FnOk l.prog w K mg base (L2.CX l.prog w) 201 fa fd ["script"] (spOf ((Jn.mk SG G).inf K) (FT 200) i_law 1) := by
  have ef : f19 = fa := by
    have e := hfa.symm.trans (PySem.W.mg_of X GG h_a19)
    cases e
    rfl
  subst ef
  have F0 := fun_mk (st := s_shared_part) h_l0 h_c0 h_k0
  have b0 := F0.binds (ps := [("one" : Str), ("other" : Str)]) fun _ _ _ _ _ _ us hl => match us, hl with | [_, _], _ => rfl
  have F1 : FunD K "__init__" "Ratio.__init__" (defArgs s_Ratio___init__) (defBody s_Ratio___init__) (defScope s_Ratio___init__) [V.int 1] [] f1 _ := ⟨⟨_, _, _, _, _, _, _, _, _, _, rfl, h_l1, h_c1, .inr ⟨by simp, dT1, _, _, _, rfl, h_d1, rfl, (.cons ⟨_, rfl⟩ .nil)⟩, .inl rfl⟩, h_k1⟩
  have F2 := fun_mk (st := s_Ratio___add__) h_l2 h_c2 h_k2
  have b2 := F2.binds (ps := [("self" : Str), ("other" : Str)]) fun _ _ _ _ _ _ us hl => match us, hl with | [_, _], _ => rfl
  have F3 := fun_mk (st := s_Ratio___sub__) h_l3 h_c3 h_k3
  have b3 := F3.binds (ps := [("self" : Str), ("other" : Str)]) fun _ _ _ _ _ _ us hl => match us, hl with | [_, _], _ => rfl
  have F4 := fun_mk (st := s_Ratio___mul__) h_l4 h_c4 h_k4
  have b4 := F4.binds (ps := [("self" : Str), ("other" : Str)]) fun _ _ _ _ _ _ us hl => match us, hl with | [_, _], _ => rfl
  have F5 := fun_mk (st := s_Ratio___neg__) h_l5 h_c5 h_k5
  have b5 := F5.binds (ps := [("self" : Str)]) fun _ _ _ _ _ _ us hl => match us, hl with | [_], _ => rfl
  have F6 := fun_mk (st := s_Ratio___eq__) h_l6 h_c6 h_k6
  have b6 := F6.binds (ps := [("self" : Str), ("other" : Str)]) fun _ _ _ _ _ _ us hl => match us, hl with | [_, _], _ => rfl
  have F7 := fun_mk (st := s_Ratio___bool__) h_l7 h_c7 h_k7
  have b7 := F7.binds (ps := [("self" : Str)]) fun _ _ _ _ _ _ us hl => match us, hl with | [_], _ => rfl
  have F8 := fun_mk (st := s_Ratio_is_less) h_l8 h_c8 h_k8
  have b8 := F8.binds (ps := [("self" : Str), ("other" : Str)]) fun _ _ _ _ _ _ us hl => match us, hl with | [_, _], _ => rfl
  have F9 := fun_mk (st := s_Ratio_is_whole) h_l9 h_c9 h_k9
  have b9 := F9.binds (ps := [("self" : Str)]) fun _ _ _ _ _ _ us hl => match us, hl with | [_], _ => rfl
  have F10 := fun_mk (st := s_Ratio_text) h_l10 h_c10 h_k10
  have b10 := F10.binds (ps := [("self" : Str)]) fun _ _ _ _ _ _ us hl => match us, hl with | [_], _ => rfl
  have F11 := fun_mk (st := s__law_feed) h_l11 h_c11 h_k11
  have b11 := F11.binds (ps := [("script" : Str)]) fun _ _ _ _ _ _ us hl => match us, hl with | [_], _ => rfl
  have F12 := fun_mk (st := s__law_draw) h_l12 h_c12 h_k12
  have b12 := F12.binds (ps := [("feed" : Str), ("limit" : Str)]) fun _ _ _ _ _ _ us hl => match us, hl with | [_, _], _ => rfl
  have F13 := fun_mk (st := s__law_great) h_l13 h_c13 h_k13
  have b13 := F13.binds (ps := [("feed" : Str), ("parts" : Str)]) fun _ _ _ _ _ _ us hl => match us, hl with | [_, _], _ => rfl
  have F14 := fun_mk (st := s__law_pair) h_l14 h_c14 h_k14
  have b14 := F14.binds (ps := [("above" : Str), ("below" : Str)]) fun _ _ _ _ _ _ us hl => match us, hl with | [_, _], _ => rfl
  have F15 := fun_mk (st := s__law_fraction) h_l15 h_c15 h_k15
  have b15 := F15.binds (ps := [("feed" : Str), ("parts" : Str)]) fun _ _ _ _ _ _ us hl => match us, hl with | [_, _], _ => rfl
  have F16 := fun_mk (st := s__law_text) h_l16 h_c16 h_k16
  have b16 := F16.binds (ps := [("one" : Str)]) fun _ _ _ _ _ _ us hl => match us, hl with | [_], _ => rfl
  have F17 := fun_mk (st := s__law_told) h_l17 h_c17 h_k17
  have b17 := F17.binds (ps := [("actual" : Str), ("due" : Str)]) fun _ _ _ _ _ _ us hl => match us, hl with | [_, _], _ => rfl
  have F18 := fun_mk (st := s__law_alone) h_l18 h_c18 h_k18
  have b18 := F18.binds (ps := [("made" : Str), ("due" : Str)]) fun _ _ _ _ _ _ us hl => match us, hl with | [_, _], _ => rfl
  have F19 := fun_mk (st := s_law) h_l19 h_c19 h_k19
  have b19 := F19.binds (ps := [("script" : Str)]) fun _ _ _ _ _ _ us hl => match us, hl with | [_], _ => rfl
  let loc : Nat → Option Py.Loc := fun f => ([(0, ⟨f0, (PySem.W.fnOf "shared_part" "shared_part" (defArgs s_shared_part) (defBody s_shared_part) (defScope s_shared_part) .none kV0 dc0 pm0 an0 cd0 ct0), [("one" : Str), ("other" : Str)]⟩), (1, ⟨f1, (PySem.W.fnOf "__init__" "Ratio.__init__" (defArgs s_Ratio___init__) (defBody s_Ratio___init__) (defScope s_Ratio___init__) (.ref dT1) kV1 dc1 pm1 an1 cd1 ct1), [("self" : Str), ("top" : Str), ("bottom" : Str)]⟩), (2, ⟨f2, (PySem.W.fnOf "__add__" "Ratio.__add__" (defArgs s_Ratio___add__) (defBody s_Ratio___add__) (defScope s_Ratio___add__) .none kV2 dc2 pm2 an2 cd2 ct2), [("self" : Str), ("other" : Str)]⟩), (3, ⟨f3, (PySem.W.fnOf "__sub__" "Ratio.__sub__" (defArgs s_Ratio___sub__) (defBody s_Ratio___sub__) (defScope s_Ratio___sub__) .none kV3 dc3 pm3 an3 cd3 ct3), [("self" : Str), ("other" : Str)]⟩), (4, ⟨f4, (PySem.W.fnOf "__mul__" "Ratio.__mul__" (defArgs s_Ratio___mul__) (defBody s_Ratio___mul__) (defScope s_Ratio___mul__) .none kV4 dc4 pm4 an4 cd4 ct4), [("self" : Str), ("other" : Str)]⟩), (5, ⟨f5, (PySem.W.fnOf "__neg__" "Ratio.__neg__" (defArgs s_Ratio___neg__) (defBody s_Ratio___neg__) (defScope s_Ratio___neg__) .none kV5 dc5 pm5 an5 cd5 ct5), [("self" : Str)]⟩), (6, ⟨f6, (PySem.W.fnOf "__eq__" "Ratio.__eq__" (defArgs s_Ratio___eq__) (defBody s_Ratio___eq__) (defScope s_Ratio___eq__) .none kV6 dc6 pm6 an6 cd6 ct6), [("self" : Str), ("other" : Str)]⟩), (7, ⟨f7, (PySem.W.fnOf "__bool__" "Ratio.__bool__" (defArgs s_Ratio___bool__) (defBody s_Ratio___bool__) (defScope s_Ratio___bool__) .none kV7 dc7 pm7 an7 cd7 ct7), [("self" : Str)]⟩), (8, ⟨f8, (PySem.W.fnOf "is_less" "Ratio.is_less" (defArgs s_Ratio_is_less) (defBody s_Ratio_is_less) (defScope s_Ratio_is_less) .none kV8 dc8 pm8 an8 cd8 ct8), [("self" : Str), ("other" : Str)]⟩), (9, ⟨f9, (PySem.W.fnOf "is_whole" "Ratio.is_whole" (defArgs s_Ratio_is_whole) (defBody s_Ratio_is_whole) (defScope s_Ratio_is_whole) .none kV9 dc9 pm9 an9 cd9 ct9), [("self" : Str)]⟩), (10, ⟨f10, (PySem.W.fnOf "text" "Ratio.text" (defArgs s_Ratio_text) (defBody s_Ratio_text) (defScope s_Ratio_text) .none kV10 dc10 pm10 an10 cd10 ct10), [("self" : Str)]⟩), (11, ⟨f11, (PySem.W.fnOf "_law_feed" "_law_feed" (defArgs s__law_feed) (defBody s__law_feed) (defScope s__law_feed) .none kV11 dc11 pm11 an11 cd11 ct11), [("script" : Str)]⟩), (12, ⟨f12, (PySem.W.fnOf "_law_draw" "_law_draw" (defArgs s__law_draw) (defBody s__law_draw) (defScope s__law_draw) .none kV12 dc12 pm12 an12 cd12 ct12), [("feed" : Str), ("limit" : Str)]⟩), (13, ⟨f13, (PySem.W.fnOf "_law_great" "_law_great" (defArgs s__law_great) (defBody s__law_great) (defScope s__law_great) .none kV13 dc13 pm13 an13 cd13 ct13), [("feed" : Str), ("parts" : Str)]⟩), (14, ⟨f14, (PySem.W.fnOf "_law_pair" "_law_pair" (defArgs s__law_pair) (defBody s__law_pair) (defScope s__law_pair) .none kV14 dc14 pm14 an14 cd14 ct14), [("above" : Str), ("below" : Str)]⟩), (15, ⟨f15, (PySem.W.fnOf "_law_fraction" "_law_fraction" (defArgs s__law_fraction) (defBody s__law_fraction) (defScope s__law_fraction) .none kV15 dc15 pm15 an15 cd15 ct15), [("feed" : Str), ("parts" : Str)]⟩), (16, ⟨f16, (PySem.W.fnOf "_law_text" "_law_text" (defArgs s__law_text) (defBody s__law_text) (defScope s__law_text) .none kV16 dc16 pm16 an16 cd16 ct16), [("one" : Str)]⟩), (17, ⟨f17, (PySem.W.fnOf "_law_told" "_law_told" (defArgs s__law_told) (defBody s__law_told) (defScope s__law_told) .none kV17 dc17 pm17 an17 cd17 ct17), [("actual" : Str), ("due" : Str)]⟩), (18, ⟨f18, (PySem.W.fnOf "_law_alone" "_law_alone" (defArgs s__law_alone) (defBody s__law_alone) (defScope s__law_alone) .none kV18 dc18 pm18 an18 cd18 ct18), [("made" : Str), ("due" : Str)]⟩), (19, ⟨f19, (PySem.W.fnOf "law" "law" (defArgs s_law) (defBody s_law) (defScope s_law) .none kV19 dc19 pm19 an19 cd19 ct19), [("script" : Str)]⟩)] : List (Nat × Py.Loc)).lookup f
  let ar : Nat → Nat := fun f => (([(0, 2), (1, 3), (2, 2), (3, 2), (4, 2), (5, 1), (6, 2), (7, 1), (8, 2), (9, 1), (10, 1), (11, 1), (12, 2), (13, 2), (14, 2), (15, 2), (16, 1), (17, 2), (18, 2), (19, 1)] : List (Nat × Nat)).lookup f).getD 0
  let G : Nat → Option Addr := fun c => ([(0, C0)] : List (Nat × Addr)).lookup c
  have st : Stat (Jn.mk SG G) K mg loc ar := {
    len := lk_all (all_cons (rfl) (all_cons (rfl) (all_cons (rfl) (all_cons (rfl) (all_cons (rfl) (all_cons (rfl) (all_cons (rfl) (all_cons (rfl) (all_cons (rfl) (all_cons (rfl) (all_cons (rfl) (all_cons (rfl) (all_cons (rfl) (all_cons (rfl) (all_cons (rfl) (all_cons (rfl) (all_cons (rfl) (all_cons (rfl) (all_cons (rfl) (all_cons (rfl) all_nil))))))))))))))))))))
    call := fun f x n e => lk_all (L := L_nm) (P := fun f (v : Str × Nat) => ∃ l, loc f = some l ∧ ar f = v.2 ∧ mg v.1 = some (.ref l.fa) ∧ PySem.W.keepIn K (.ref l.fa) = true ∧ Binds K l.fd l.ps []) (all_cons (⟨_, rfl, rfl, PySem.W.mg_of X GG h_a0, h_k0, b0⟩) (all_cons (⟨_, rfl, rfl, PySem.W.mg_of X GG h_a11, h_k11, b11⟩) (all_cons (⟨_, rfl, rfl, PySem.W.mg_of X GG h_a12, h_k12, b12⟩) (all_cons (⟨_, rfl, rfl, PySem.W.mg_of X GG h_a13, h_k13, b13⟩) (all_cons (⟨_, rfl, rfl, PySem.W.mg_of X GG h_a14, h_k14, b14⟩) (all_cons (⟨_, rfl, rfl, PySem.W.mg_of X GG h_a15, h_k15, b15⟩) (all_cons (⟨_, rfl, rfl, PySem.W.mg_of X GG h_a16, h_k16, b16⟩) (all_cons (⟨_, rfl, rfl, PySem.W.mg_of X GG h_a17, h_k17, b17⟩) (all_cons (⟨_, rfl, rfl, PySem.W.mg_of X GG h_a18, h_k18, b18⟩) (all_cons (⟨_, rfl, rfl, PySem.W.mg_of X GG h_a19, h_k19, b19⟩) all_nil)))))))))) f (x, n) e
    meth := fun f c m n e => lk_all (L := L_mt) (P := fun f (v : Nat × Str × Nat) => ∃ C l, loc f = some l ∧ ar f = v.2.2 ∧ G v.1 = some C ∧ Meth K C v.2.1 l.fa ∧ Binds K l.fd l.ps []) (all_cons (⟨_, _, rfl, rfl, rfl, ⟨h_a2, h_i2, h_k2⟩, b2⟩) (all_cons (⟨_, _, rfl, rfl, rfl, ⟨h_a3, h_i3, h_k3⟩, b3⟩) (all_cons (⟨_, _, rfl, rfl, rfl, ⟨h_a4, h_i4, h_k4⟩, b4⟩) (all_cons (⟨_, _, rfl, rfl, rfl, ⟨h_a5, h_i5, h_k5⟩, b5⟩) (all_cons (⟨_, _, rfl, rfl, rfl, ⟨h_a6, h_i6, h_k6⟩, b6⟩) (all_cons (⟨_, _, rfl, rfl, rfl, ⟨h_a7, h_i7, h_k7⟩, b7⟩) (all_cons (⟨_, _, rfl, rfl, rfl, ⟨h_a8, h_i8, h_k8⟩, b8⟩) (all_cons (⟨_, _, rfl, rfl, rfl, ⟨h_a10, h_i10, h_k10⟩, b10⟩) all_nil)))))))) f (c, m, n) e
    fi := fun f c m n e => lk_all (L := L_mt) (P := fun f (v : Nat × Str × Nat) => ∃ (C fa : Addr), G v.1 = some C ∧ Meth K C v.2.1 fa ∧ PySem.W.fnIn K fa = true) (all_cons (⟨_, _, rfl, ⟨h_a2, h_i2, h_k2⟩, by unfold PySem.W.fnIn; rw [h_l2]⟩) (all_cons (⟨_, _, rfl, ⟨h_a3, h_i3, h_k3⟩, by unfold PySem.W.fnIn; rw [h_l3]⟩) (all_cons (⟨_, _, rfl, ⟨h_a4, h_i4, h_k4⟩, by unfold PySem.W.fnIn; rw [h_l4]⟩) (all_cons (⟨_, _, rfl, ⟨h_a5, h_i5, h_k5⟩, by unfold PySem.W.fnIn; rw [h_l5]⟩) (all_cons (⟨_, _, rfl, ⟨h_a6, h_i6, h_k6⟩, by unfold PySem.W.fnIn; rw [h_l6]⟩) (all_cons (⟨_, _, rfl, ⟨h_a7, h_i7, h_k7⟩, by unfold PySem.W.fnIn; rw [h_l7]⟩) (all_cons (⟨_, _, rfl, ⟨h_a8, h_i8, h_k8⟩, by unfold PySem.W.fnIn; rw [h_l8]⟩) (all_cons (⟨_, _, rfl, ⟨h_a10, h_i10, h_k10⟩, by unfold PySem.W.fnIn; rw [h_l10]⟩) all_nil)))))))) f (c, m, n) e
    make := fun c x f n dfl e => lk_all (L := L_ini) (P := fun c (v : Str × Nat × Nat × List (List V)) => ∃ C l, loc v.2.1 = some l ∧ ar v.2.1 = v.2.2.1 ∧ G c = some C ∧ mg v.1 = some (.ref C) ∧ Mk K C l.fa ∧ ∀ dvs ∈ v.2.2.2, ∃ ds, Vals dvs ds ∧ Binds K l.fd l.ps ds) (all_cons (⟨_, _, rfl, rfl, rfl, PySem.W.mg_of X GG h_aC0, ⟨h_mk_0, h_a1, h_i1, h_kc_0⟩, (all_cons (F1.binds1 (ps := [("self" : Str), ("top" : Str), ("bottom" : Str)]) 3 1 (by simp) rfl fun _ _ _ _ _ _ _ us its h1 h2 => match us, its, h1, h2 with | [_, _, _], [_], _, _ => ⟨_, rfl, rfl⟩) all_nil)⟩) all_nil) c (x, f, n, dfl) e
    makeK := fun c x f n m ks e => lk_all (L := L_kw) (P := fun c (v : Str × Nat × Nat × Nat × List Str) => ∃ C l, loc v.2.1 = some l ∧ ar v.2.1 = v.2.2.1 ∧ G c = some C ∧ mg v.1 = some (.ref C) ∧ Mk K C l.fa ∧ KBn K l.fd l.ps (v.2.2.2.1 + 1) v.2.2.2.2 (fun us ws => us ++ ws) (fun vs zs => vs ++ zs)) all_nil c (x, f, n, m, ks) e
    prop := fun f c x e => lk_all (L := L_prop) (P := fun f (v : Nat × Str) => ∃ C p l, loc f = some l ∧ ar f = 1 ∧ G v.1 = some C ∧ PropOf K C v.2 p l.fa ∧ Binds K l.fd l.ps []) (all_cons (⟨_, _, _, rfl, rfl, rfl, ⟨h_a9, h_pg9, h_pt9, _, h_pc9⟩, b9⟩) all_nil) f (c, x) e
    cls := lk_all (L := ([(0, C0)] : List (Nat × Addr))) (P := fun c C => Cls K C) (all_cons (⟨h_pg_0, h_hd_0, h_po_0, h_sa_0⟩) all_nil)
    nat := fun c C x g m => lk_all (L := ([(0, C0)] : List (Nat × Addr))) (P := fun c C => ∀ x ∈ SG.fl c, NoAttr K C x) (all_cons ((show ∀ x ∈ SG.fl 0, NoAttr K C0 x from (all_cons (h_n_0_top) (all_cons (h_n_0_bottom) all_nil)))) all_nil) c C g x m
    glb := mem_all (all_cons (PySem.W.mg_none_of X GG h_z_abs) (all_cons (PySem.W.mg_none_of X GG h_z_bool) (all_cons (PySem.W.mg_none_of X GG h_z_int) (all_cons (PySem.W.mg_none_of X GG h_z_isinstance) (all_cons (PySem.W.mg_none_of X GG h_z_len) (all_cons (PySem.W.mg_none_of X GG h_z_max) (all_cons (PySem.W.mg_none_of X GG h_z_range) (all_cons (PySem.W.mg_none_of X GG h_z_str) all_nil))))))))
    con := lks_all (L := L_con) (P := fun x v => ∃ u, mg x = some u ∧ RelV v u) all_nil
    cnm := lks_all (L := L_cn) (P := fun x c => ∃ C, G c = some C ∧ mg x = some (.ref C)) (all_cons (⟨_, rfl, PySem.W.mg_of X GG h_aC0⟩) all_nil)
    ty := lk_all (L := ([(0, C0)] : List (Nat × Addr))) (P := fun c C => PySem.W.findIn K (.ref C) "__class__" = some (some (.builtin "object.__class__")) ∧ PySem.W.specialIn K (.builtin "object.__class__") "__get__" = some (some (.builtin "getset_descriptor.__get__")) ∧ PySem.W.takesIn K (.builtin "object.__class__") = some true ∧ PySem.W.mroIn K C (.type "object") = some true) (all_cons (⟨h_ta_0, h_tb, h_tc, h_td_0⟩) all_nil)
    sf := lk_all (L := ([(0, C0)] : List (Nat × Addr))) (P := fun c C => PySem.W.selfFirst K C = true) (all_cons (h_sf_0) all_nil)
    isc := fun c c' C C' g g' => lk_all (L := ([(0, C0)] : List (Nat × Addr))) (P := fun c C => ∀ c' C', G c' = some C' → PySem.W.kitOne K (.ref C) (.ref C') = some (SG.sub c c')) (all_cons (lk_all (L := ([(0, C0)] : List (Nat × Addr))) (P := fun c' C' => PySem.W.kitOne K (.ref C0) (.ref C') = some (SG.sub 0 c')) (all_cons (h_ic_0_0) all_nil)) all_nil) c C g c' C' g'
    isb := fun T c C m g => (show ∀ T ∈ ["NoneType", "bool", "int", "str", "tuple", "list", "dict"], ∀ c C, G c = some C → PySem.W.kitOne K (.type T) (.ref C) = some false from (all_cons (fun c C g => lk_all (L := ([(0, C0)] : List (Nat × Addr))) (P := fun c C => PySem.W.kitOne K (.type "NoneType") (.ref C) = some false) (all_cons (h_ib_0_NoneType) all_nil) c C g) (all_cons (fun c C g => lk_all (L := ([(0, C0)] : List (Nat × Addr))) (P := fun c C => PySem.W.kitOne K (.type "bool") (.ref C) = some false) (all_cons (h_ib_0_bool) all_nil) c C g) (all_cons (fun c C g => lk_all (L := ([(0, C0)] : List (Nat × Addr))) (P := fun c C => PySem.W.kitOne K (.type "int") (.ref C) = some false) (all_cons (h_ib_0_int) all_nil) c C g) (all_cons (fun c C g => lk_all (L := ([(0, C0)] : List (Nat × Addr))) (P := fun c C => PySem.W.kitOne K (.type "str") (.ref C) = some false) (all_cons (h_ib_0_str) all_nil) c C g) (all_cons (fun c C g => lk_all (L := ([(0, C0)] : List (Nat × Addr))) (P := fun c C => PySem.W.kitOne K (.type "tuple") (.ref C) = some false) (all_cons (h_ib_0_tuple) all_nil) c C g) (all_cons (fun c C g => lk_all (L := ([(0, C0)] : List (Nat × Addr))) (P := fun c C => PySem.W.kitOne K (.type "list") (.ref C) = some false) (all_cons (h_ib_0_list) all_nil) c C g) (all_cons (fun c C g => lk_all (L := ([(0, C0)] : List (Nat × Addr))) (P := fun c C => PySem.W.kitOne K (.type "dict") (.ref C) = some false) (all_cons (h_ib_0_dict) all_nil) c C g) all_nil)))))))) T m c C g
    ist := fun T c C m g => (show ∀ T ∈ ["NoneType", "bool", "int", "str", "tuple", "list", "dict"], ∀ c C, G c = some C → PySem.W.kitOne K (.ref C) (.type T) = some false from (all_cons (fun c C g => lk_all (L := ([(0, C0)] : List (Nat × Addr))) (P := fun c C => PySem.W.kitOne K (.ref C) (.type "NoneType") = some false) (all_cons (h_it_0_NoneType) all_nil) c C g) (all_cons (fun c C g => lk_all (L := ([(0, C0)] : List (Nat × Addr))) (P := fun c C => PySem.W.kitOne K (.ref C) (.type "bool") = some false) (all_cons (h_it_0_bool) all_nil) c C g) (all_cons (fun c C g => lk_all (L := ([(0, C0)] : List (Nat × Addr))) (P := fun c C => PySem.W.kitOne K (.ref C) (.type "int") = some false) (all_cons (h_it_0_int) all_nil) c C g) (all_cons (fun c C g => lk_all (L := ([(0, C0)] : List (Nat × Addr))) (P := fun c C => PySem.W.kitOne K (.ref C) (.type "str") = some false) (all_cons (h_it_0_str) all_nil) c C g) (all_cons (fun c C g => lk_all (L := ([(0, C0)] : List (Nat × Addr))) (P := fun c C => PySem.W.kitOne K (.ref C) (.type "tuple") = some false) (all_cons (h_it_0_tuple) all_nil) c C g) (all_cons (fun c C g => lk_all (L := ([(0, C0)] : List (Nat × Addr))) (P := fun c C => PySem.W.kitOne K (.ref C) (.type "list") = some false) (all_cons (h_it_0_list) all_nil) c C g) (all_cons (fun c C g => lk_all (L := ([(0, C0)] : List (Nat × Addr))) (P := fun c C => PySem.W.kitOne K (.ref C) (.type "dict") = some false) (all_cons (h_it_0_dict) all_nil) c C g) all_nil)))))))) T m c C g }
  refine ⟨_, fun s u => .of_eq rfl, fun base _ _ => ⟨G, (kept_all (P := l.prog) (wd := w) (base := base) (ds := DEFS) st (fun n T => ?_) 200).1 i_law _ rfl⟩⟩
  refine lk_all (P := fun f (v : Py.Loc) => FnOk l.prog w K mg base (L2.CX l.prog w) (n + 2) v.fa v.fd v.ps (spOf ((Jn.mk SG G).inf K) (tabP DEFS (n + 1)).1 f (ar f))) (all_cons (ok_shared_part F0 T (FT_shared_part n)) (all_cons (ok_Ratio___init__ F1 T (FT_Ratio___init__ n)) (all_cons (ok_Ratio___add__ F2 T (FT_Ratio___add__ n)) (all_cons (ok_Ratio___sub__ F3 T (FT_Ratio___sub__ n)) (all_cons (ok_Ratio___mul__ F4 T (FT_Ratio___mul__ n)) (all_cons (ok_Ratio___neg__ F5 T (FT_Ratio___neg__ n)) (all_cons (ok_Ratio___eq__ F6 T (FT_Ratio___eq__ n)) (all_cons (ok_Ratio___bool__ F7 T (FT_Ratio___bool__ n)) (all_cons (ok_Ratio_is_less F8 T (FT_Ratio_is_less n)) (all_cons (ok_Ratio_is_whole F9 T (FT_Ratio_is_whole n)) (all_cons (ok_Ratio_text F10 T (FT_Ratio_text n)) (all_cons (ok__law_feed F11 T (FT__law_feed n)) (all_cons (ok__law_draw F12 T (FT__law_draw n)) (all_cons (ok__law_great F13 T (FT__law_great n)) (all_cons (ok__law_pair F14 T (FT__law_pair n)) (all_cons (ok__law_fraction F15 T (FT__law_fraction n)) (all_cons (ok__law_text F16 T (FT__law_text n)) (all_cons (ok__law_told F17 T (FT__law_told n)) (all_cons (ok__law_alone F18 T (FT__law_alone n)) (all_cons (ok_law F19 T (FT_law n)) all_nil))))))))))))))))))))
end Lw
open PySem PySem.W PyProof.Rows Py in
set_option maxHeartbeats 0 in
theorem PySem.Challenge.cw_wordworth_k02_ratio_order_and_texts_holds : PySem.Challenge.rw_wordworth_k02_ratio_order_and_texts.Holds := by
  w_on; o_law; k_head; (case hw => w_witness2)
  k_fill
  refine Py.law_end (l := PySem.Challenge.rw_wordworth_k02_ratio_order_and_texts) (k := 201) (f := Lw.i_law) (F := Lw.FT 200) (sg := Lw.SG) rfl rfl ⟨rfl, by decide, by decide⟩ (fun w h Y => PySem.W.kIn_of Y) ?F Lw.law_holds
  case F =>
    intro w mg fa h KX G hmg
    refine' Lw.all_mk KX G hmg ?h_aC0 ?h_a0 ?h_l0 ?h_c0 ?h_k0 ?h_a1 ?h_i1 ?h_l1 ?h_d1 ?h_c1 ?h_k1 ?h_a2 ?h_i2 ?h_l2 ?h_c2 ?h_k2 ?h_a3 ?h_i3 ?h_l3 ?h_c3 ?h_k3 ?h_a4 ?h_i4 ?h_l4 ?h_c4 ?h_k4 ?h_a5 ?h_i5 ?h_l5 ?h_c5 ?h_k5 ?h_a6 ?h_i6 ?h_l6 ?h_c6 ?h_k6 ?h_a7 ?h_i7 ?h_l7 ?h_c7 ?h_k7 ?h_a8 ?h_i8 ?h_l8 ?h_c8 ?h_k8 ?h_a9 ?h_pg9 ?h_pt9 ?h_pc9 ?h_l9 ?h_c9 ?h_k9 ?h_a10 ?h_i10 ?h_l10 ?h_c10 ?h_k10 ?h_a11 ?h_l11 ?h_c11 ?h_k11 ?h_a12 ?h_l12 ?h_c12 ?h_k12 ?h_a13 ?h_l13 ?h_c13 ?h_k13 ?h_a14 ?h_l14 ?h_c14 ?h_k14 ?h_a15 ?h_l15 ?h_c15 ?h_k15 ?h_a16 ?h_l16 ?h_c16 ?h_k16 ?h_a17 ?h_l17 ?h_c17 ?h_k17 ?h_a18 ?h_l18 ?h_c18 ?h_k18 ?h_a19 ?h_l19 ?h_c19 ?h_k19 ?h_pg_0 ?h_hd_0 ?h_po_0 ?h_sa_0 ?h_mk_0 ?h_kc_0 ?h_ta_0 ?h_td_0 ?h_sf_0 ?h_n_0_top ?h_n_0_bottom ?h_ic_0_0 ?h_ib_0_NoneType ?h_it_0_NoneType ?h_ib_0_bool ?h_it_0_bool ?h_ib_0_int ?h_it_0_int ?h_ib_0_str ?h_it_0_str ?h_ib_0_tuple ?h_it_0_tuple ?h_ib_0_list ?h_it_0_list ?h_ib_0_dict ?h_it_0_dict ?h_tb ?h_tc ?h_z_abs ?h_z_bool ?h_z_int ?h_z_isinstance ?h_z_len ?h_z_max ?h_z_range ?h_z_str
    (case h_aC0 => k_is)
    (case h_a0 => k_is)
    (case h_l0 => k_is)
    (case h_c0 => k_is)
    (case h_k0 => k_is)
    (case h_a1 => k_is)
    (case h_i1 => k_is)
    (case h_l1 => k_is)
    (case h_d1 => k_is)
    (case h_c1 => k_is)
    (case h_k1 => k_is)
    (case h_a2 => k_is)
    (case h_i2 => k_is)
    (case h_l2 => k_is)
    (case h_c2 => k_is)
    (case h_k2 => k_is)
    (case h_a3 => k_is)
    (case h_i3 => k_is)
    (case h_l3 => k_is)
    (case h_c3 => k_is)
    (case h_k3 => k_is)
    (case h_a4 => k_is)
    (case h_i4 => k_is)
    (case h_l4 => k_is)
    (case h_c4 => k_is)
    (case h_k4 => k_is)
    (case h_a5 => k_is)
    (case h_i5 => k_is)
    (case h_l5 => k_is)
    (case h_c5 => k_is)
    (case h_k5 => k_is)
    (case h_a6 => k_is)
    (case h_i6 => k_is)
    (case h_l6 => k_is)
    (case h_c6 => k_is)
    (case h_k6 => k_is)
    (case h_a7 => k_is)
    (case h_i7 => k_is)
    (case h_l7 => k_is)
    (case h_c7 => k_is)
    (case h_k7 => k_is)
    (case h_a8 => k_is)
    (case h_i8 => k_is)
    (case h_l8 => k_is)
    (case h_c8 => k_is)
    (case h_k8 => k_is)
    (case h_a9 => k_is)
    (case h_pg9 => k_is)
    (case h_pt9 => k_is)
    (case h_pc9 => k_is)
    (case h_l9 => k_is)
    (case h_c9 => k_is)
    (case h_k9 => k_is)
    (case h_a10 => k_is)
    (case h_i10 => k_is)
    (case h_l10 => k_is)
    (case h_c10 => k_is)
    (case h_k10 => k_is)
    (case h_a11 => k_is)
    (case h_l11 => k_is)
    (case h_c11 => k_is)
    (case h_k11 => k_is)
    (case h_a12 => k_is)
    (case h_l12 => k_is)
    (case h_c12 => k_is)
    (case h_k12 => k_is)
    (case h_a13 => k_is)
    (case h_l13 => k_is)
    (case h_c13 => k_is)
    (case h_k13 => k_is)
    (case h_a14 => k_is)
    (case h_l14 => k_is)
    (case h_c14 => k_is)
    (case h_k14 => k_is)
    (case h_a15 => k_is)
    (case h_l15 => k_is)
    (case h_c15 => k_is)
    (case h_k15 => k_is)
    (case h_a16 => k_is)
    (case h_l16 => k_is)
    (case h_c16 => k_is)
    (case h_k16 => k_is)
    (case h_a17 => k_is)
    (case h_l17 => k_is)
    (case h_c17 => k_is)
    (case h_k17 => k_is)
    (case h_a18 => k_is)
    (case h_l18 => k_is)
    (case h_c18 => k_is)
    (case h_k18 => k_is)
    (case h_a19 => k_is)
    (case h_l19 => k_is)
    (case h_c19 => k_is)
    (case h_k19 => k_is)
    (case h_pg_0 => k_is)
    (case h_hd_0 => k_is)
    (case h_po_0 => k_is)
    (case h_sa_0 => k_is)
    (case h_mk_0 => k_is)
    (case h_kc_0 => k_is)
    (case h_ta_0 => k_is)
    (case h_td_0 => k_is)
    (case h_sf_0 => k_is)
    (case h_n_0_top => k_is)
    (case h_n_0_bottom => k_is)
    (case h_ic_0_0 => kit_is)
    (case h_ib_0_NoneType => kit_is)
    (case h_it_0_NoneType => kit_is)
    (case h_ib_0_bool => kit_is)
    (case h_it_0_bool => kit_is)
    (case h_ib_0_int => kit_is)
    (case h_it_0_int => kit_is)
    (case h_ib_0_str => kit_is)
    (case h_it_0_str => kit_is)
    (case h_ib_0_tuple => kit_is)
    (case h_it_0_tuple => kit_is)
    (case h_ib_0_list => kit_is)
    (case h_it_0_list => kit_is)
    (case h_ib_0_dict => kit_is)
    (case h_it_0_dict => kit_is)
    (case h_tb => k_is)
    (case h_tc => k_is)
    (case h_z_abs => k_is)
    (case h_z_bool => k_is)
    (case h_z_int => k_is)
    (case h_z_isinstance => k_is)
    (case h_z_len => k_is)
    (case h_z_max => k_is)
    (case h_z_range => k_is)
    (case h_z_str => k_is)
#print axioms PySem.Challenge.cw_wordworth_k02_ratio_order_and_texts_holds
