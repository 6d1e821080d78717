import PyProof.Rows.All
import Wide.All
import OpenK.AllK
import Wide.FinOn
import HandS.ForMost
import HandS.ForExc
import HandS.Walk
import HandS.IsInst
import HandS.Property
import HandS.CallSlots
import HandS.Defaults
import HandS.Zip
import HandS.Flow
import HandS.Wide
import KE.KExcSuper
import KE.KExcIs
import HandS.ExcInit
import HandS.ExcIs
import HandS.ExcField
import HandS.Nested
import HandS.TupAny
import HandS.MakeKw
import HandS.Text
import HandS.SortInts
import HandS.Deep
import KE.GoesZip
import KE.GoesMore
import HandS.Rev
import HandS.EndBits
import KE.GoesEnum
import HandS.Star
import HandS.Replace
import HandS.More
import PyProof.Rows.Range3
import PyProof.Conv_bool
import HandS.Style
import PyProof.Rows.StrRev
import HandS.TupLe
import KE.SortKeyHeap
import HandS.SortKw
import PySem.Challenge.RW_wordworth_k07_inverse
set_option Elab.async false
set_option linter.all false
set_option maxRecDepth 100000
set_option maxHeartbeats 1000000

/-! Py1: values, stores, what stands for what. -/
namespace Py
open PySem PySem.Spec PyProof.Rows L2

/-- plain data: it never changes -/
inductive D where
  | non | bl (b : Bool) | int (i : Int) | str (x : Str)
  | tup (xs : List D) | lst (xs : List D) | lsx (xs : List D)
  | obj (c : Nat) (xs : List D)
  | dK (kvs : List (Key × D)) | dT (kvs : List (List Key × D))
/-- a value of a slot: data, or a cell of the store -/
inductive W where
  | d (x : D) | c (i : Nat) | e (c : Nat) (x : D)
/-- what a cell holds -/
inductive Ce where
  | dead
  | lst (ws : List W)
  | ins (c : Nat) (ws : List W)
  | dK (kvs : List (Key × W)) | dT (kvs : List (List Key × W))
abbrev Sto := List Ce
abbrev Env := List (Option W)
/-- how an expression ends -/
inductive R (α : Type) where
  | ok (a : α) (S : Sto)
  | exc (c : Nat) (x : D) (S : Sto)
  | bad
/-- how a statement ends -/
inductive RS where
  | nx (e : Env) (S : Sto)
  | rt (w : W) (S : Sto)
  | bk (e : Env) (S : Sto)
  | ct (e : Env) (S : Sto)
  | exc (c : Nat) (x : D) (e : Env) (S : Sto)
  | bad
@[simp] def R.bind {α β : Type} (r : R α) (f : α → Sto → R β) : R β := match r with
  | .ok a S => f a S
  | .exc c x S => .exc c x S
  | .bad => .bad
abbrev DE := Env → Sto → R W
abbrev DT := Env → Sto → R Bool
abbrev DA := Env → Sto → R (List W)
abbrev DS := Env → Sto → RS
abbrev FnTab := Nat → List W → Sto → R W

/-- the written part, the classes' addresses, their fields -/
structure Inf where
  K : PySem.W.Frag
  G : Nat → Option Addr
  fl : Nat → List Str
  X : Nat → Option Addr
  ex : Option (Addr × Value × Option Addr)

mutual
inductive Rep (I : Inf) (H : Hp) : D → V → Prop
  | non : Rep I H .non .non
  | bl (b : Bool) : Rep I H (.bl b) (.bl b)
  | int (i : Int) : Rep I H (.int i) (.int i)
  | str (x : Str) : Rep I H (.str x) (.str x)
  | tup {a : Addr} {xs : List D} {vs : List V} (h : SqT I.K H a vs) (r : Reps I H xs vs) : Rep I H (.tup xs) (.ref a)
  | lst {a : Addr} {xs : List D} {vs : List V} (h : H a = some (.lst vs)) (r : Reps I H xs vs) : Rep I H (.lst xs) (.ref a)
  | lsx {a : Addr} {xs : List D} {vs : List V} (h : SqL I.K H a vs) (r : Reps I H xs vs) : Rep I H (.lsx xs) (.ref a)
  | obj {a C dx : Addr} {c : Nat} {xs : List D} {vs : List V} (g : I.G c = some C) (h : H a = some (.ins C dx ((I.fl c).zip vs))) (l : vs.length = (I.fl c).length) (r : Reps I H xs vs) : Rep I H (.obj c xs) (.ref a)
  | dK {a : Addr} {kvs : List (Key × D)} {us : List (Key × V)} (h : H a = some (.dK us)) (r : RepK I H kvs us) : Rep I H (.dK kvs) (.ref a)
  | dT {a : Addr} {kvs : List (List Key × D)} {us : List (List Key × V)} (h : H a = some (.dT us)) (r : RepT I H kvs us) : Rep I H (.dT kvs) (.ref a)
inductive Reps (I : Inf) (H : Hp) : List D → List V → Prop
  | nil : Reps I H [] []
  | cons {x : D} {v : V} {xs : List D} {vs : List V} (r : Rep I H x v) (t : Reps I H xs vs) : Reps I H (x :: xs) (v :: vs)
inductive RepK (I : Inf) (H : Hp) : List (Key × D) → List (Key × V) → Prop
  | nil : RepK I H [] []
  | cons {k : Key} {x : D} {v : V} {xs : List (Key × D)} {vs : List (Key × V)} (r : Rep I H x v) (t : RepK I H xs vs) : RepK I H ((k, x) :: xs) ((k, v) :: vs)
inductive RepT (I : Inf) (H : Hp) : List (List Key × D) → List (List Key × V) → Prop
  | nil : RepT I H [] []
  | cons {k : List Key} {x : D} {v : V} {xs : List (List Key × D)} {vs : List (List Key × V)} (r : Rep I H x v) (t : RepT I H xs vs) : RepT I H ((k, x) :: xs) ((k, v) :: vs)
end

/-- all of H is in H' -/
def Ex (H H' : Hp) : Prop := ∀ a o, H a = some o → H' a = some o
theorem Ex.refl (H : Hp) : Ex H H := fun _ _ h => h
theorem Ex.trans {H H1 H2 : Hp} (a : Ex H H1) (b : Ex H1 H2) : Ex H H2 := fun x o h => b x o (a x o h)
theorem ex_rd {H H' : Hp} {a : Addr} {u : HO} (e : Ex H H') (h : Rd H a u) : Rd H' a u := by
  rcases h with h | ⟨o, h⟩
  · exact Or.inl (e a _ h)
  · exact Or.inr ⟨o, e a _ h⟩
theorem ex_l {K : PySem.W.Frag} {H H' : Hp} {a : Addr} {xs : List V} (e : Ex H H') (h : SqL K H a xs) : SqL K H' a xs := by
  rcases h with h | h
  · exact Or.inl (ex_rd e h)
  · exact Or.inr h
theorem ex_t {K : PySem.W.Frag} {H H' : Hp} {a : Addr} {xs : List V} (e : Ex H H') (h : SqT K H a xs) : SqT K H' a xs := by
  rcases h with h | h
  · exact Or.inl (ex_rd e h)
  · exact Or.inr h
mutual
theorem Rep.mono {I : Inf} {H H' : Hp} (e : Ex H H') : ∀ {d : D} {v : V}, Rep I H d v → Rep I H' d v
  | _, _, .non => .non
  | _, _, .bl b => .bl b
  | _, _, .int i => .int i
  | _, _, .str x => .str x
  | _, _, .tup h r => .tup (ex_t e h) (Reps.mono e r)
  | _, _, .lst h r => .lst (e _ _ h) (Reps.mono e r)
  | _, _, .lsx h r => .lsx (ex_l e h) (Reps.mono e r)
  | _, _, .obj g h l r => .obj g (e _ _ h) l (Reps.mono e r)
  | _, _, .dK h r => .dK (e _ _ h) (RepK.mono e r)
  | _, _, .dT h r => .dT (e _ _ h) (RepT.mono e r)
theorem Reps.mono {I : Inf} {H H' : Hp} (e : Ex H H') : ∀ {d : List D} {v : List V}, Reps I H d v → Reps I H' d v
  | _, _, .nil => .nil
  | _, _, .cons r t => .cons (Rep.mono e r) (Reps.mono e t)
theorem RepK.mono {I : Inf} {H H' : Hp} (e : Ex H H') : ∀ {d : List (Key × D)} {v : List (Key × V)}, RepK I H d v → RepK I H' d v
  | _, _, .nil => .nil
  | _, _, .cons r t => .cons (Rep.mono e r) (RepK.mono e t)
theorem RepT.mono {I : Inf} {H H' : Hp} (e : Ex H H') : ∀ {d : List (List Key × D)} {v : List (List Key × V)}, RepT I H d v → RepT I H' d v
  | _, _, .nil => .nil
  | _, _, .cons r t => .cons (Rep.mono e r) (RepT.mono e t)
end
theorem Reps.len {I : Inf} {H : Hp} : ∀ {d : List D} {v : List V}, Reps I H d v → d.length = v.length
  | _, _, .nil => rfl
  | _, _, .cons _ t => congrArg (· + 1) (Reps.len t)
theorem Reps.get {I : Inf} {H : Hp} : ∀ {d : List D} {v : List V} {i : Nat} {x : D}, Reps I H d v → d[i]? = some x → ∃ u, v[i]? = some u ∧ Rep I H x u
  | _, _, _, _, .nil, e => by simp at e
  | _, _, 0, _, .cons r _, e => by simp at e; subst e; exact ⟨_, rfl, r⟩
  | _, _, i + 1, x, .cons _ t, e => by
    obtain ⟨u, h1, h2⟩ := Reps.get (i := i) (x := x) t (by simpa using e)
    exact ⟨u, by simpa using h1, h2⟩
theorem Reps.getV {I : Inf} {H : Hp} : ∀ {d : List D} {v : List V} {i : Nat} {u : V}, Reps I H d v → v[i]? = some u → ∃ x, d[i]? = some x ∧ Rep I H x u
  | _, _, _, _, .nil, e => by simp at e
  | _, _, 0, _, .cons r _, e => by simp at e; subst e; exact ⟨_, rfl, r⟩
  | _, _, i + 1, x, .cons _ t, e => by
    obtain ⟨u, h1, h2⟩ := Reps.getV (i := i) (u := x) t (by simpa using e)
    exact ⟨u, by simpa using h1, h2⟩
theorem Reps.append {I : Inf} {H : Hp} : ∀ {d e : List D} {v u : List V}, Reps I H d v → Reps I H e u → Reps I H (d ++ e) (v ++ u)
  | _, _, _, _, .nil, s => s
  | _, _, _, _, .cons r t, s => .cons r (Reps.append t s)
theorem Reps.take {I : Inf} {H : Hp} : ∀ {d : List D} {v : List V} (n : Nat), Reps I H d v → Reps I H (d.take n) (v.take n)
  | _, _, 0, _ => .nil
  | _, _, _ + 1, .nil => .nil
  | _, _, n + 1, .cons r t => .cons r (Reps.take n t)
theorem Reps.drop {I : Inf} {H : Hp} : ∀ {d : List D} {v : List V} (n : Nat), Reps I H d v → Reps I H (d.drop n) (v.drop n)
  | _, _, 0, r => r
  | _, _, _ + 1, .nil => .nil
  | _, _, n + 1, .cons _ t => Reps.drop n t
theorem Reps.reverse {I : Inf} {H : Hp} {d : List D} {v : List V} (r : Reps I H d v) : Reps I H d.reverse v.reverse := by
  induction d generalizing v with
  | nil => cases r; exact .nil
  | cons x xs ih =>
    cases r with
    | cons r t =>
      rw [List.reverse_cons, List.reverse_cons]
      exact (ih t).append (.cons r .nil)
theorem Reps.rep {I : Inf} {H : Hp} {d : List D} {v : List V} (r : Reps I H d v) : ∀ k : Nat, Reps I H (List.replicate k d).flatten (List.replicate k v).flatten
  | 0 => .nil
  | k + 1 => by
    rw [List.replicate_succ, List.replicate_succ, List.flatten_cons, List.flatten_cons]
    exact r.append (Reps.rep r k)

/-! ### the store -/
open Classical in
/-- the addresses of living cells are hidden -/
noncomputable def mask (S : Sto) (M : List Addr) (H : Hp) : Hp := fun a => if ∃ (i : Nat) (o : Ce), M[i]? = some a ∧ S[i]? = some o ∧ o ≠ Ce.dead then none else H a
theorem mask_some {S : Sto} {M : List Addr} {H : Hp} {a : Addr} {o : HO} : mask S M H a = some o ↔ (¬ ∃ (i : Nat) (c : Ce), M[i]? = some a ∧ S[i]? = some c ∧ c ≠ Ce.dead) ∧ H a = some o := by
  unfold mask
  split
  · rename_i h
    exact ⟨fun e => by (cases e), fun e => absurd h e.1⟩
  · rename_i h
    exact ⟨fun e => ⟨h, e⟩, fun e => e.2⟩
theorem mask_ex {S : Sto} {M : List Addr} {H : Hp} : Ex (mask S M H) H := fun a o h => (mask_some.mp h).2
/-- an exception: its class, its what -/
def RepX (I : Inf) (H : Hp) (c : Nat) (x : D) (cls : Value) (dd : Option Addr) : Prop := ∃ (C p : Addr) (v : V), I.X c = some C ∧ cls = .ref C ∧ dd = some p ∧ H p = some (.xd [(("what" : Str), v)]) ∧ Rep I H x v
theorem RepX.mono {I : Inf} {H H' : Hp} {c : Nat} {x : D} {cls : Value} {dd : Option Addr} (e : Ex H H') (r : RepX I H c x cls dd) : RepX I H' c x cls dd := by
  obtain ⟨C, p, v, a1, a2, a3, a4, a5⟩ := r
  exact ⟨C, p, v, a1, a2, a3, e _ _ a4, a5.mono e⟩
def RepW (I : Inf) (M : List Addr) (H : Hp) : W → V → Prop
  | .d x, v => Rep I H x v
  | .c i, v => ∃ a, M[i]? = some a ∧ v = .ref a
  | .e c x, v => ∃ a cls dd, I.ex = some (a, cls, dd) ∧ v = .ref a ∧ RepX I H c x cls dd
abbrev RepWs (I : Inf) (M : List Addr) (H : Hp) : List W → List V → Prop := Paired (RepW I M H)
def W.low (n : Nat) : W → Prop
  | .d _ => True
  | .c j => j < n
  | .e _ _ => True
def Ce.low (n : Nat) : Ce → Prop
  | .dead => True
  | .lst ws => ∀ w ∈ ws, w.low n
  | .ins _ ws => ∀ w ∈ ws, w.low n
  | .dK kvs => ∀ w ∈ kvs, w.2.low n
  | .dT kvs => ∀ w ∈ kvs, w.2.low n
def CeAt (I : Inf) (M : List Addr) (Hm : Hp) (ho : Option HO) : Ce → Prop
  | .dead => True
  | .lst ws => ∃ vs, ho = some (.lst vs) ∧ RepWs I M Hm ws vs
  | .ins c ws => ∃ (C dx : Addr) (vs : List V), I.G c = some C ∧ ho = some (.ins C dx ((I.fl c).zip vs)) ∧ vs.length ≤ (I.fl c).length ∧ RepWs I M Hm ws vs
  | .dK kvs => ∃ us, ho = some (.dK us) ∧ Paired (fun (p : Key × W) (q : Key × V) => p.1 = q.1 ∧ RepW I M Hm p.2 q.2) kvs us
  | .dT kvs => ∃ us, ho = some (.dT us) ∧ Paired (fun (p : List Key × W) (q : List Key × V) => p.1 = q.1 ∧ RepW I M Hm p.2 q.2) kvs us
structure Sim (I : Inf) (S : Sto) (M : List Addr) (H : Hp) : Prop where
  len : M.length = S.length
  nd : ∀ (i j : Nat) (a : Addr) (c d : Ce), M[i]? = some a → M[j]? = some a → S[i]? = some c → S[j]? = some d → c ≠ .dead → d ≠ .dead → i = j
  trk : ∀ a ∈ M, ∃ o, H a = some o
  cell : ∀ (i : Nat) (o : Ce) (a : Addr), S[i]? = some o → M[i]? = some a → CeAt I M (mask S M H) (H a) o
  low : ∀ (i : Nat) (o : Ce), S[i]? = some o → o.low i
structure Le (S : Sto) (M : List Addr) (H : Hp) (S' : Sto) (M' : List Addr) (H' : Hp) : Prop where
  pre : M <+: M'
  ex : Ex (mask S M H) (mask S' M' H')
theorem Le.refl {S : Sto} {M : List Addr} {H : Hp} : Le S M H S M H := ⟨List.prefix_refl _, Ex.refl _⟩
theorem Le.trans {S S1 S2 : Sto} {M M1 M2 : List Addr} {H H1 H2 : Hp} (a : Le S M H S1 M1 H1) (b : Le S1 M1 H1 S2 M2 H2) : Le S M H S2 M2 H2 := ⟨a.pre.trans b.pre, a.ex.trans b.ex⟩
theorem pre_get {M M' : List Addr} (h : M <+: M') {i : Nat} {a : Addr} (e : M[i]? = some a) : M'[i]? = some a := by
  obtain ⟨t, rfl⟩ := h
  rw [List.getElem?_append_left (List.getElem?_eq_some_iff.mp e).1]
  exact e
theorem RepW.up {I : Inf} {M M' : List Addr} {H H' : Hp} (p : M <+: M') (e : Ex H H') : ∀ {w : W} {v : V}, RepW I M H w v → RepW I M' H' w v
  | .d _, _, r => Rep.mono e r
  | .c _, _, ⟨a, h, q⟩ => ⟨a, pre_get p h, q⟩
  | .e _ _, _, ⟨a, cls, dd, h, q, r⟩ => ⟨a, cls, dd, h, q, r.mono e⟩
theorem RepW.mono {I : Inf} {S S' : Sto} {M M' : List Addr} {H H' : Hp} (l : Le S M H S' M' H') {w : W} {v : V} (r : RepW I M (mask S M H) w v) : RepW I M' (mask S' M' H') w v := r.up l.pre l.ex
theorem RepWs.mono {I : Inf} {S S' : Sto} {M M' : List Addr} {H H' : Hp} (l : Le S M H S' M' H') {w : List W} {v : List V} (r : RepWs I M (mask S M H) w v) : RepWs I M' (mask S' M' H') w v := Paired.mapP r fun _ _ q => q.mono l
theorem CeAt.up {I : Inf} {M M' : List Addr} {Hm Hm' : Hp} {ho : Option HO} {o : Ce} (p : M <+: M') (e : Ex Hm Hm') (r : CeAt I M Hm ho o) : CeAt I M' Hm' ho o := by
  cases o with
  | dead => trivial
  | lst ws => obtain ⟨vs, h, q⟩ := r; exact ⟨vs, h, Paired.mapP q fun _ _ z => z.up p e⟩
  | ins c ws => obtain ⟨C, dx, vs, g, h, l, q⟩ := r; exact ⟨C, dx, vs, g, h, l, Paired.mapP q fun _ _ z => z.up p e⟩
  | dK kvs => obtain ⟨us, h, q⟩ := r; exact ⟨us, h, Paired.mapP q fun _ _ z => ⟨z.1, z.2.up p e⟩⟩
  | dT kvs => obtain ⟨us, h, q⟩ := r; exact ⟨us, h, Paired.mapP q fun _ _ z => ⟨z.1, z.2.up p e⟩⟩
section
variable {I : Inf} {S : Sto} {M : List Addr} {H : Hp}
theorem Sim.at {i : Nat} {o : Ce} (s : Sim I S M H) (e : S[i]? = some o) : ∃ a, M[i]? = some a := by
  have h : i < M.length := by rw [s.len]; exact (List.getElem?_eq_some_iff.mp e).1
  exact ⟨M[i], List.getElem?_eq_getElem h⟩
theorem Sim.fresh {p : Addr} (s : Sim I S M H) (h : H p = none) : p ∉ M := fun m => by
  obtain ⟨o, e⟩ := s.trk p m
  rw [h] at e
  cases e
/-- a new thing, no cell -/
theorem Sim.new {p : Addr} {o : HO} (s : Sim I S M H) (h : H p = none) : Sim I S M (upd H p o) ∧ Le S M H S M (upd H p o) := by
  have np := s.fresh h
  have ex : Ex (mask S M H) (mask S M (upd H p o)) := fun a u e => by
    obtain ⟨n, e⟩ := mask_some.mp e
    exact mask_some.mpr ⟨n, by rw [upd_ne (ne_of_none e h)]; exact e⟩
  refine ⟨⟨s.len, s.nd, fun a m => ?_, fun i c a e1 e2 => ?_, s.low⟩, List.prefix_refl _, ex⟩
  · obtain ⟨u, e⟩ := s.trk a m
    exact ⟨u, by rw [upd_ne (ne_of_none e h)]; exact e⟩
  · have na : a ≠ p := fun q => np (q ▸ List.mem_of_getElem? e2)
    rw [upd_ne na]
    exact (s.cell i c a e1 e2).up (List.prefix_refl _) ex
theorem mask_new {p : Addr} {o : HO} (s : Sim I S M H) (h : H p = none) : mask S M (upd H p o) p = some o :=
  mask_some.mpr ⟨fun ⟨i, c, e, _⟩ => s.fresh h (List.mem_of_getElem? e), upd_same⟩
/-- the heap grows where nothing stood -/
theorem Sim.grow {H' : Hp} (s : Sim I S M H) (e : Ex H H') : Sim I S M H' ∧ Le S M H S M H' := by
  have ex : Ex (mask S M H) (mask S M H') := fun a u q => by
    obtain ⟨n, q⟩ := mask_some.mp q
    exact mask_some.mpr ⟨n, e a u q⟩
  refine ⟨⟨s.len, s.nd, fun a m => ?_, fun i c a e1 e2 => ?_, s.low⟩, List.prefix_refl _, ex⟩
  · obtain ⟨u, q⟩ := s.trk a m
    exact ⟨u, e _ _ q⟩
  · obtain ⟨u, q⟩ := s.trk a (List.mem_of_getElem? e2)
    have h := s.cell i c a e1 e2
    rw [q] at h
    rw [e _ _ q]
    exact h.up (List.prefix_refl _) ex
/-- a new cell -/
theorem Sim.newC {p : Addr} {o : HO} {c : Ce} (s : Sim I S M H) (h : H p = none) (lo : c.low S.length) (hc : CeAt I M (mask S M H) (some o) c) (hd : c ≠ .dead) : Sim I (S ++ [c]) (M ++ [p]) (upd H p o) ∧ Le S M H (S ++ [c]) (M ++ [p]) (upd H p o) := by
  have np := s.fresh h
  have pre : M <+: M ++ [p] := List.prefix_append _ _
  have ex : Ex (mask S M H) (mask (S ++ [c]) (M ++ [p]) (upd H p o)) := fun a u e => by
    obtain ⟨n, e⟩ := mask_some.mp e
    have na : a ≠ p := ne_of_none e h
    refine mask_some.mpr ⟨fun ⟨i, k, e1, e2, e3⟩ => ?_, by rw [upd_ne na]; exact e⟩
    by_cases hi : i < M.length
    · rw [List.getElem?_append_left hi] at e1
      rw [List.getElem?_append_left (by rw [← s.len]; exact hi)] at e2
      exact n ⟨i, k, e1, e2, e3⟩
    · rw [List.getElem?_append_right (Nat.le_of_not_lt hi)] at e1
      have : a = p := by
        have q := List.mem_of_getElem? e1
        simpa using q
      exact na this
  refine ⟨⟨by simp [s.len], fun i j a c1 c2 e1 e2 f1 f2 d1 d2 => ?_, fun a m => ?_, fun i k a e1 e2 => ?_, fun i k e => ?_⟩, pre, ex⟩
  · have lt : ∀ {q : Nat} {x : Addr}, (M ++ [p])[q]? = some x → q ≤ M.length := fun {q x} e => by
      have := (List.getElem?_eq_some_iff.mp e).1
      simp at this
      omega
    have at_ : ∀ {q : Nat}, q < M.length → (M ++ [p])[q]? = M[q]? ∧ (S ++ [c])[q]? = S[q]? := fun {q} h => ⟨List.getElem?_append_left h, List.getElem?_append_left (by rw [← s.len]; exact h)⟩
    have last : ∀ {q : Nat}, q = M.length → (M ++ [p])[q]? = some p := fun {q} h => by subst h; simp
    rcases Nat.lt_or_ge i M.length with hi | hi <;> rcases Nat.lt_or_ge j M.length with hj | hj
    · rw [(at_ hi).1] at e1
      rw [(at_ hj).1] at e2
      rw [(at_ hi).2] at f1
      rw [(at_ hj).2] at f2
      exact s.nd i j a c1 c2 e1 e2 f1 f2 d1 d2
    · rw [(at_ hi).1] at e1
      rw [last (Nat.le_antisymm (lt e2) hj)] at e2
      cases e2
      exact absurd (List.mem_of_getElem? e1) np
    · rw [(at_ hj).1] at e2
      rw [last (Nat.le_antisymm (lt e1) hi)] at e1
      cases e1
      exact absurd (List.mem_of_getElem? e2) np
    · have := lt e1
      have := lt e2
      omega
  · rcases List.mem_append.mp m with m | m
    · obtain ⟨u, e⟩ := s.trk a m
      exact ⟨u, by rw [upd_ne (ne_of_none e h)]; exact e⟩
    · have : a = p := by simpa using m
      exact ⟨o, by rw [this, upd_same]⟩
  · by_cases hi : i < S.length
    · rw [List.getElem?_append_left hi] at e1
      rw [List.getElem?_append_left (by rw [s.len]; exact hi)] at e2
      have na : a ≠ p := fun q => np (q ▸ List.mem_of_getElem? e2)
      rw [upd_ne na]
      exact (s.cell i k a e1 e2).up pre ex
    · have hi' : i = S.length := by
        have := (List.getElem?_eq_some_iff.mp e1).1
        simp at this
        omega
      subst hi'
      rw [List.getElem?_append_right (Nat.le_refl _)] at e1
      rw [List.getElem?_append_right (by rw [s.len]; exact Nat.le_refl _)] at e2
      simp [s.len] at e1 e2
      subst e1
      subst e2
      rw [upd_same]
      exact hc.up pre ex
  · by_cases hi : i < S.length
    · rw [List.getElem?_append_left hi] at e
      exact s.low i k e
    · have hi' : i = S.length := by
        have := (List.getElem?_eq_some_iff.mp e).1
        simp at this
        omega
      subst hi'
      rw [List.getElem?_append_right (Nat.le_refl _)] at e
      simp at e
      subst e
      exact lo
/-- a living cell is written -/
theorem Sim.write {i : Nat} {a : Addr} {o : HO} {c c' : Ce} (s : Sim I S M H) (e : S[i]? = some c) (ea : M[i]? = some a) (hd : c ≠ .dead) (hd' : c' ≠ .dead) (lo : c'.low i) (hc : CeAt I M (mask S M H) (some o) c') :
    Sim I (S.set i c') M (upd H a o) ∧ Le S M H (S.set i c') M (upd H a o) := by
  have hi : i < S.length := (List.getElem?_eq_some_iff.mp e).1
  have liv : ∀ b, (∃ (j : Nat) (k : Ce), M[j]? = some b ∧ (S.set i c')[j]? = some k ∧ k ≠ .dead) → ∃ (j : Nat) (k : Ce), M[j]? = some b ∧ S[j]? = some k ∧ k ≠ .dead := fun b ⟨j, k, e1, e2, e3⟩ => by
    by_cases q : j = i
    · subst q
      exact ⟨j, c, e1, e, hd⟩
    · rw [List.getElem?_set_ne (Ne.symm q)] at e2
      exact ⟨j, k, e1, e2, e3⟩
  have ex : Ex (mask S M H) (mask (S.set i c') M (upd H a o)) := fun b u q => by
    obtain ⟨n, q⟩ := mask_some.mp q
    have nb : b ≠ a := fun z => n ⟨i, c, z ▸ ea, e, hd⟩
    exact mask_some.mpr ⟨fun z => n (liv b z), by rw [upd_ne nb]; exact q⟩
  have old : ∀ {j : Nat} {k : Ce}, (S.set i c')[j]? = some k → k ≠ .dead → ∃ k', S[j]? = some k' ∧ k' ≠ .dead := fun {j k} q d => by
    by_cases z : j = i
    · subst z
      exact ⟨c, e, hd⟩
    · rw [List.getElem?_set_ne (Ne.symm z)] at q
      exact ⟨k, q, d⟩
  refine ⟨⟨by simp [s.len], fun x y b c1 c2 e1 e2 f1 f2 d1 d2 => ?_, fun b m => ?_, fun j k b e1 e2 => ?_, fun j k q => ?_⟩, List.prefix_refl _, ex⟩
  · obtain ⟨k1, g1, u1⟩ := old f1 d1
    obtain ⟨k2, g2, u2⟩ := old f2 d2
    exact s.nd x y b k1 k2 e1 e2 g1 g2 u1 u2
  · by_cases q : b = a
    · exact ⟨o, by rw [q, upd_same]⟩
    · obtain ⟨u, z⟩ := s.trk b m
      exact ⟨u, by rw [upd_ne q]; exact z⟩
  · by_cases q : j = i
    · subst q
      rw [ea] at e2
      cases e2
      rw [List.getElem?_set_self hi] at e1
      cases e1
      rw [upd_same]
      exact hc.up (List.prefix_refl _) ex
    · rw [List.getElem?_set_ne (Ne.symm q)] at e1
      by_cases hk : k = .dead
      · subst hk; trivial
      have nb : b ≠ a := fun z => q (s.nd j i b k c e2 (by rw [z]; exact ea) e1 e hk hd)
      rw [upd_ne nb]
      exact (s.cell j k b e1 e2).up (List.prefix_refl _) ex
  · by_cases z : j = i
    · subst z
      rw [List.getElem?_set_self hi] at q
      cases q
      exact lo
    · rw [List.getElem?_set_ne (Ne.symm z)] at q
      exact s.low j k q
/-- a cell dies: what stands there is data from now on -/
theorem Sim.kill {i : Nat} {c : Ce} (s : Sim I S M H) (e : S[i]? = some c) : Sim I (S.set i .dead) M H ∧ Le S M H (S.set i .dead) M H := by
  have hi : i < S.length := (List.getElem?_eq_some_iff.mp e).1
  have ex : Ex (mask S M H) (mask (S.set i .dead) M H) := fun b u q => by
    obtain ⟨n, q⟩ := mask_some.mp q
    refine mask_some.mpr ⟨fun ⟨j, k, e1, e2, e3⟩ => ?_, q⟩
    by_cases z : j = i
    · subst z
      rw [List.getElem?_set_self hi] at e2
      cases e2
      exact e3 rfl
    · rw [List.getElem?_set_ne (Ne.symm z)] at e2
      exact n ⟨j, k, e1, e2, e3⟩
  have old : ∀ {j : Nat} {k : Ce}, (S.set i .dead)[j]? = some k → k ≠ .dead → S[j]? = some k := fun {j k} q d => by
    by_cases z : j = i
    · subst z
      rw [List.getElem?_set_self hi] at q
      cases q
      exact absurd rfl d
    · rw [List.getElem?_set_ne (Ne.symm z)] at q
      exact q
  refine ⟨⟨by simp [s.len], fun x y b c1 c2 e1 e2 f1 f2 d1 d2 => s.nd x y b c1 c2 e1 e2 (old f1 d1) (old f2 d2) d1 d2, s.trk, fun j k b e1 e2 => ?_, fun j k q => ?_⟩, List.prefix_refl _, ex⟩
  · by_cases q : j = i
    · subst q
      rw [List.getElem?_set_self hi] at e1
      cases e1
      trivial
    · rw [List.getElem?_set_ne (Ne.symm q)] at e1
      exact (s.cell j k b e1 e2).up (List.prefix_refl _) ex
  · by_cases z : j = i
    · subst z
      rw [List.getElem?_set_self hi] at q
      cases q
      trivial
    · rw [List.getElem?_set_ne (Ne.symm z)] at q
      exact s.low j k q
theorem mask_dead {i : Nat} {a : Addr} {c : Ce} (s : Sim I S M H) (e : S[i]? = some c) (ea : M[i]? = some a) (hd : c ≠ .dead := by intro z; cases z) : mask (S.set i .dead) M H a = H a := by
  have hi : i < S.length := (List.getElem?_eq_some_iff.mp e).1
  unfold mask
  split
  · rename_i h
    obtain ⟨j, k, e1, e2, e3⟩ := h
    by_cases z : j = i
    · subst z
      rw [List.getElem?_set_self hi] at e2
      cases e2
      exact absurd rfl e3
    · rw [List.getElem?_set_ne (Ne.symm z)] at e2
      exact absurd (s.nd j i a k c e1 ea e2 e e3 hd) z
  · rfl
/-- a cell is numbered anew, as the last one -/
theorem Sim.move {i : Nat} {a : Addr} {c : Ce} (s : Sim I S M H) (e : S[i]? = some c) (ea : M[i]? = some a) (hd : c ≠ .dead) : Sim I (S.set i .dead ++ [c]) (M ++ [a]) H ∧ Le S M H (S.set i .dead ++ [c]) (M ++ [a]) H := by
  have hi : i < S.length := (List.getElem?_eq_some_iff.mp e).1
  have pre : M <+: M ++ [a] := List.prefix_append _ _
  have hl : (S.set i Ce.dead).length = M.length := by simp [s.len]
  -- a living one of the new store is one of the old, or the last
  have old : ∀ {j : Nat} {k : Ce} {b : Addr}, (S.set i .dead ++ [c])[j]? = some k → (M ++ [a])[j]? = some b → k ≠ .dead → (j < M.length ∧ j ≠ i ∧ S[j]? = some k ∧ M[j]? = some b) ∨ (j = M.length ∧ k = c ∧ b = a) := fun {j k b} q qb d => by
    rcases Nat.lt_or_ge j M.length with h | h
    · left
      rw [List.getElem?_append_left (by rw [hl]; exact h)] at q
      rw [List.getElem?_append_left h] at qb
      by_cases z : j = i
      · subst z
        rw [List.getElem?_set_self hi] at q
        cases q
        exact absurd rfl d
      · rw [List.getElem?_set_ne (Ne.symm z)] at q
        exact ⟨h, z, q, qb⟩
    · right
      have h2 : j = M.length := by
        have := (List.getElem?_eq_some_iff.mp qb).1
        simp at this
        omega
      subst h2
      rw [List.getElem?_append_right (by rw [hl]; exact Nat.le_refl _), hl, Nat.sub_self] at q
      rw [List.getElem?_append_right (Nat.le_refl _), Nat.sub_self] at qb
      cases q
      cases qb
      exact ⟨rfl, rfl, rfl⟩
  have liv : ∀ b, (∃ (j : Nat) (k : Ce), (M ++ [a])[j]? = some b ∧ (S.set i .dead ++ [c])[j]? = some k ∧ k ≠ .dead) ↔ ∃ (j : Nat) (k : Ce), M[j]? = some b ∧ S[j]? = some k ∧ k ≠ .dead := fun b => by
    constructor
    · rintro ⟨j, k, e1, e2, e3⟩
      rcases old e2 e1 e3 with ⟨_, _, h1, h2⟩ | ⟨_, _, rfl⟩
      · exact ⟨j, k, h2, h1, e3⟩
      · exact ⟨i, c, ea, e, hd⟩
    · rintro ⟨j, k, e1, e2, e3⟩
      by_cases z : j = i
      · subst z
        rw [ea] at e1
        cases e1
        refine ⟨M.length, c, by simp, ?_, hd⟩
        rw [List.getElem?_append_right (by rw [hl]; exact Nat.le_refl _), hl, Nat.sub_self]
        rfl
      · have hj : j < M.length := (List.getElem?_eq_some_iff.mp e1).1
        refine ⟨j, k, by rw [List.getElem?_append_left hj]; exact e1, ?_, e3⟩
        rw [List.getElem?_append_left (by rw [hl]; exact hj), List.getElem?_set_ne (Ne.symm z)]
        exact e2
  have em : mask (S.set i .dead ++ [c]) (M ++ [a]) H = mask S M H := by
    funext b
    unfold mask
    by_cases h : ∃ (j : Nat) (k : Ce), M[j]? = some b ∧ S[j]? = some k ∧ k ≠ .dead
    · rw [if_pos h, if_pos ((liv b).mpr h)]
    · rw [if_neg h, if_neg fun z => h ((liv b).mp z)]
  refine ⟨⟨by simp [s.len], fun x y b c1 c2 e1 e2 f1 f2 d1 d2 => ?_, fun b m => ?_, fun j k b e1 e2 => ?_, fun j k q => ?_⟩, pre, by rw [em]; exact Ex.refl _⟩
  · rcases old f1 e1 d1 with ⟨_, n1, g1, h1⟩ | ⟨z1, _, b1⟩ <;> rcases old f2 e2 d2 with ⟨_, n2, g2, h2⟩ | ⟨z2, _, b2⟩
    · exact s.nd x y b c1 c2 h1 h2 g1 g2 d1 d2
    · subst b2
      exact absurd (s.nd x i b c1 c h1 ea g1 e d1 hd) n1
    · subst b1
      exact absurd (s.nd y i b c2 c h2 ea g2 e d2 hd) n2
    · rw [z1, z2]
  · rcases List.mem_append.mp m with m | m
    · exact s.trk b m
    · have : b = a := by simpa using m
      subst this
      exact s.trk b (List.mem_of_getElem? ea)
  · by_cases hk : k = .dead
    · subst hk; trivial
    · rw [em]
      rcases old e1 e2 hk with ⟨_, _, h1, h2⟩ | ⟨_, rfl, rfl⟩
      · exact (s.cell j k b h1 h2).up pre (Ex.refl _)
      · exact (s.cell i k b e ea).up pre (Ex.refl _)
  · by_cases hk : k = .dead
    · subst hk; trivial
    · obtain ⟨b, eb⟩ : ∃ b, (M ++ [a])[j]? = some b := by
        have h1 := (List.getElem?_eq_some_iff.mp q).1
        have h2 : j < (M ++ [a]).length := by simp at h1 ⊢; rw [s.len]; exact h1
        exact ⟨_, List.getElem?_eq_getElem h2⟩
      rcases old q eb hk with ⟨_, _, h1, _⟩ | ⟨rfl, rfl, _⟩
      · exact s.low j k h1
      · have := s.low i k e
        have le : i ≤ M.length := by rw [s.len]; exact Nat.le_of_lt hi
        have up : ∀ {w : W}, w.low i → w.low M.length := fun {w} h => by
          cases w with
          | d x => trivial
          | c j => exact Nat.lt_of_lt_of_le h le
          | e c x => trivial
        cases k with
        | dead => trivial
        | lst ws => exact fun w m => up (this w m)
        | ins c ws => exact fun w m => up (this w m)
        | dK ws => exact fun w m => up (this w m)
        | dT ws => exact fun w m => up (this w m)
/-- the cells behind the first n are forgotten -/
theorem Sim.cut {n : Nat} (s : Sim I S M H) : Sim I (S.take n) (M.take n) H ∧ Ex (mask S M H) (mask (S.take n) (M.take n) H) := by
  have tk : ∀ {α : Type} {l : List α} {i : Nat} {x : α}, (l.take n)[i]? = some x → l[i]? = some x ∧ i < n := fun {α l i x} e => by
    rw [List.getElem?_take] at e
    split at e
    · exact ⟨e, by assumption⟩
    · cases e
  have ex : Ex (mask S M H) (mask (S.take n) (M.take n) H) := fun b u q => by
    obtain ⟨k, q⟩ := mask_some.mp q
    exact mask_some.mpr ⟨fun ⟨j, z, e1, e2, e3⟩ => k ⟨j, z, (tk e1).1, (tk e2).1, e3⟩, q⟩
  have upl : ∀ {i : Nat} {w : W} {v : V}, i ≤ n → w.low i → RepW I M (mask S M H) w v → RepW I (M.take n) (mask (S.take n) (M.take n) H) w v := fun {i w v} hi lo r => by
    cases w with
    | d x => exact Rep.mono ex r
    | c j =>
      obtain ⟨a, e, q⟩ := r
      refine ⟨a, ?_, q⟩
      have lo' : j < i := lo
      rw [List.getElem?_take, if_pos (by omega)]
      exact e
    | e c x =>
      obtain ⟨a, cls, dd, e, q, r⟩ := r
      exact ⟨a, cls, dd, e, q, r.mono ex⟩
  have uplP : ∀ {i : Nat} {ws : List W} {vs : List V}, i ≤ n → (∀ w ∈ ws, w.low i) → RepWs I M (mask S M H) ws vs → RepWs I (M.take n) (mask (S.take n) (M.take n) H) ws vs := fun {i ws vs} hi lo r => by
    induction r with
    | nil => exact .nil
    | cons r t ih => exact .cons (upl hi (lo _ (by simp)) r) (ih fun w m => lo w (by simp [m]))
  have uplK : ∀ {κ : Type} {i : Nat} {ws : List (κ × W)} {vs : List (κ × V)}, i ≤ n → (∀ w ∈ ws, w.2.low i) → Paired (fun (p : κ × W) (q : κ × V) => p.1 = q.1 ∧ RepW I M (mask S M H) p.2 q.2) ws vs →
      Paired (fun (p : κ × W) (q : κ × V) => p.1 = q.1 ∧ RepW I (M.take n) (mask (S.take n) (M.take n) H) p.2 q.2) ws vs := fun {κ i ws vs} hi lo r => by
    induction r with
    | nil => exact .nil
    | cons r t ih => exact .cons ⟨r.1, upl hi (lo _ (by simp)) r.2⟩ (ih fun w m => lo w (by simp [m]))
  refine ⟨⟨by simp [s.len], fun x y b c1 c2 e1 e2 f1 f2 d1 d2 => s.nd x y b c1 c2 (tk e1).1 (tk e2).1 (tk f1).1 (tk f2).1 d1 d2, fun a m => s.trk a (List.mem_of_mem_take m), fun i c a e1 e2 => ?_, fun i c e => s.low i c (tk e).1⟩, ex⟩
  have h := s.cell i c a (tk e1).1 (tk e2).1
  have lo := s.low i c (tk e1).1
  have hi : i ≤ n := Nat.le_of_lt (tk e1).2
  cases c with
  | dead => trivial
  | lst ws => obtain ⟨vs, h, q⟩ := h; exact ⟨vs, h, uplP hi lo q⟩
  | ins c ws => obtain ⟨C, dx, vs, g, h, l, q⟩ := h; exact ⟨C, dx, vs, g, h, l, uplP hi lo q⟩
  | dK kvs => obtain ⟨us, h, q⟩ := h; exact ⟨us, h, uplK hi lo q⟩
  | dT kvs => obtain ⟨us, h, q⟩ := h; exact ⟨us, h, uplK hi lo q⟩
end
end Py

/-! Py2: how code is read; the context; plain expressions. -/
namespace Py
open PySem PySem.Spec PyProof.Rows L2

/-- what the class at C of an exception must have; D: the class with the __init__ -/
structure IniC (K : PySem.W.Frag) (C D : Addr) : Prop where
  T : OexC K C
  sup : PySem.W.ks_superIn K C D "__init__" = some (some (.builtin "ValueError.__init__"))
  ve : PySem.W.subIn K (.ref C) (.type "ValueError") = some true
  mro : PySem.W.mroIn K C (.ref D) = some true
  wh : PySem.W.findIn K (.ref C) "what" = some none
  th : PySem.W.nsIn K cStatics "thirdparty.any" = some none
/-- C.__init__(self, what) -/
def spI (K : PySem.W.Frag) (D : Addr) : Sp := fun vs H Q _ => ∃ (a C : Addr) (v : V), vs = [.ref a, v] ∧ H a = some (exo a C none) ∧ IniC K C D ∧ ∀ dx, H dx = none → dx ≠ a → Q .non (upd (upd H dx (exd dx [(("what" : Str), v)])) a (exo a C (some dx)))
section
variable {P : Program} {wd : World} {K : PySem.W.Frag} {mg : Str → Option Value} {base : Heap}
theorem ini_fn {f c cc D : Addr} {qual : Str} {params : Arguments} {scope : Scope} {dV kV doc pm ct oc : Value} {an od : Option Addr} {osl : Array (Option Value)} {p0 p1 p2 p3 p4 p5 q0 q1 q2 q3 : Pos} {ccl cl : Value} {cdd cld : Option Addr} {ccs csl : Array (Option Value)} {vs0 : Array Value} {file : Str} {tf : Tok} {cdD : ClassData} {ar : Arg}
    (hf : K.lookup f = some ⟨oc, od, .func (PySem.W.ksFn "__init__" qual params [.Expr (.Call (.Attribute (.Call (.Name "super" p0) [] [] p1) "__init__" p2) [.Name "what" p3] [] p4) p5, .Assign [.Attribute (.Name "self" q0) "what" q1] (.Name "what" q2) q3] scope dV kV doc pm an (.ref c) ct cc), osl⟩)
    (hcd : PySem.W.codeIn K (.ref c) qual = true) (S : NdefX.NScope ["self", "what", "__class__"] ["self", "what"] ["__class__"] scope) (hks : scope.names.lookup ("super" : Str) = some .globalImplicit)
    (hcode : K.lookup c = some ⟨ccl, cdd, .fields vs0, ccs⟩) (hvs : vs0[2]? = some (.str file tf)) (hfile : ((P.main.file : Str) == file) = true) (hcell : K.lookup cc = some ⟨cl, cld, .cell (some (.ref D)), csl⟩) (hD : PySem.W.clsIn K D = some cdD)
    (hp : (params.posonlyargs ++ params.args).head? = some ar) (har : ar.arg = ("self" : Str)) (hsuper : mg "super" = none) (htop : (P.main.scope.names.lookup ("super" : Str)).isSome = false)
    (hin : ∀ L, interactive (PySem.W.ksEnv qual scope L f (.ref c) cc) = false) {pl : PySem.Env → Sem Bool} (hev : ∀ env, eval (.Call (.Attribute (.Call (.Name "super" p0) [] [] p1) "__init__" p2) [.Name "what" p3] [] p4) env = (do
      let ov ← attributeBase (.Call (.Name "super" p0) [] [] p1) "__init__" env (eval (.Call (.Name "super" p0) [] [] p1) env)
      standAt p2.atName
      let (f, first) ← holding [ov] (getMethod ov "__init__" (pl env))
      callWith p4 f first (backTo p4 (starEach [.Name "what" p3] env)) []))
    (hsw : ∀ env, swapsWith (.Call (.Attribute (.Call (.Name "super" p0) [] [] p1) "__init__" p2) [.Name "what" p3] [] p4) none p5.line env = pure false) (hsw2 : ∀ env, swapsWith (.Name "what" q2) (some (.Attribute (.Name "self" q0) "what" q1)) q3.line env = pure false) :
    FnOk P wd K mg base (L2.CX P wd) 0 f (PySem.W.ksFn "__init__" qual params [.Expr (.Call (.Attribute (.Call (.Name "super" p0) [] [] p1) "__init__" p2) [.Name "what" p3] [] p4) p5, .Assign [.Attribute (.Name "self" q0) "what" q1] (.Name "what" q2) q3] scope dV kV doc pm an (.ref c) ct cc) ["self", "what"] (spI K D) := by
  refine ⟨fun vs H Q E ⟨a, C, v, e, _⟩ => by rw [e]; rfl, fun A outer s H args us vs Q E hr e0 hb r hsp => ?_⟩
  obtain ⟨a, C, v, rfl, ea, IC, hq⟩ := hsp
  obtain ⟨u0, ur, rfl, r0, rr⟩ : ∃ u0 ur, us = u0 :: ur ∧ RelV (.ref a) u0 ∧ Vals [v] ur := by
    cases r with
    | cons r0 rr => exact ⟨_, _, rfl, r0, rr⟩
  obtain ⟨u1, rfl, r1⟩ := vals1 rr
  obtain rfl : u0 = Value.ref a := r0
  have KX : K.In s.heap := e0.mod.kin.keeps fun b o e => (e0.bs b o e).1
  have lim : s.heap.NoLimit := e0.mod.nolimit.keeps fun b o e => (e0.bs b o e).1
  obtain ⟨mb, hmb, hmb2⟩ := e0.mod.blt
  obtain ⟨nm, qn, NN, bs, bm, sn, sub, ab, col, dd, k0, k1, k2, k3, k5, hC, hbm⟩ := IC.T.cls
  refine PySem.ks_codeAny_call_defAt (binds := [(("self" : Str), Value.ref a), (("what" : Str), u1)]) hr.depth (KX _ _ hf) rfl lim (PySem.W.codeRec_of KX hcd) rfl hb S.nocell (fun x hx => ?_) (fun h1 hns kp => ?_) S.co S.gen S.kind
  · refine S.par x.1 ?_
    simp only [List.mem_cons, List.not_mem_nil, or_false] at hx
    rcases hx with rfl | rfl <;> simp
  let F : NdefX.NF := ⟨"__init__", qual, params, [.Expr (.Call (.Attribute (.Call (.Name "super" p0) [] [] p1) "__init__" p2) [.Name "what" p3] [] p4) p5, .Assign [.Attribute (.Name "self" q0) "what" q1] (.Name "what" q2) q3], scope, [("__class__", cc)], c⟩
  have CA : NdefX.CellsAt F.cl ["__class__"] [none] s.heap H := by
    refine ⟨rfl, fun y c0 e => ?_, fun x y c0 e1 e2 => ?_, fun i y e => ?_⟩
    · have e : ([("__class__", cc)] : List (Str × Addr)).lookup y = some c0 := e
      rw [List.lookup_cons] at e
      split at e
      · cases e
        exact ⟨(e0.bs _ _ (e0.mod.kin _ _ hcell)).2, some (.ref D), _, KX _ _ hcell, rfl⟩
      · cases e
    · have e1 : ([("__class__", cc)] : List (Str × Addr)).lookup x = some c0 := e1
      have e2 : ([("__class__", cc)] : List (Str × Addr)).lookup y = some c0 := e2
      rw [List.lookup_cons] at e1 e2
      split at e1
      · rename_i h1
        split at e2
        · rename_i h2
          rw [beq_iff_eq] at h1 h2
          rw [h1, h2]
        · cases e2
      · cases e1
    · match i, e with
      | 0, e =>
        cases e
        exact ⟨cc, rfl, fun v z => by cases z⟩
  have I0 := NdefX.inv_startN (CX := L2.CX P wd) (tk := s.toks + 2) (F := F) (f := f) (E := E) S hr.hd e0 rfl (.cons (show RelV (.ref a) (.ref a) from rfl) (.cons r1 .nil)) CA hns kp
  have hself : (List.reverse [(("self" : Str), Value.ref a), (("what" : Str), u1)]).lookup ("self" : Str) = some (.ref a) := by
    simp [List.lookup, show (("self" : Str) == ("what" : Str)) = false by decide +kernel]
  have hwhat : (List.reverse [(("self" : Str), Value.ref a), (("what" : Str), u1)]).lookup ("what" : Str) = some u1 := by
    simp [List.lookup]
  have KX1 : K.In h1 := KX.keeps kp
  obtain ⟨t1, hx⟩ := exo_at I0.hok ea
  obtain ⟨oD, hD1, hD2⟩ : ∃ oD, h1.get? D = some oD ∧ oD.data = .cls cdD := by
    unfold PySem.W.clsIn at hD
    split at hD
    · rename_i c d cd' sl ho
      cases hD
      exact ⟨_, KX1 _ _ ho, rfl⟩
    · cases hD
  have hcl : PySem.W.clsIn K C = some { name := nm, bases := bs, mro := .ref C :: bm, ns := NN, qualname := qn, hasDict := true, slotNames := sn, subclasses := sub, abstract := ab, collection := col, hasDel := false } := by unfold PySem.W.clsIn; rw [hC] <;> rfl
  show _root_.PySem.wpAt (model P wd) (A.deeper (NdefX.envF F f s.heap.objs.size)) (.func F.body (NdefX.envF F f s.heap.objs.size)) (execs F.body (NdefX.envF F f s.heap.objs.size)) _ _ _
  refine ks_wpAt_execs_cons (ks_wpAt_Expr_any (ks_wpAt_MethodCall (pl := pl _) (ks_wpAt_mono (ks_wpAt_super_base (Q := fun ov s1 => ov = .ref h1.objs.size ∧ ∃ h2 : Heap, h2.get? h1.objs.size = some (PySem.W.ks_superObj D a C) ∧ (∀ y o, h1.get? y = some o → h2.get? y = some o) ∧ s1 = (⟨h2, s.gens, s.drawn, s.toks + 2, s.os⟩ : Shared)) hks (S.frk _ (by simp)) rfl rfl (KX1 _ _ hf) rfl hp rfl (KX1 _ _ hcode) rfl hvs hfile htop ?_) (fun ov s1 hz => ?_) fun _ _ z => z) (hev _)) (hin _) (hsw _))
  · refine PySem.W.ks_loadName_global S.kind hks (Calls.loadGlobal_builtin (mg := mg) (mb := mb) ?_ hsuper ?_ (v := .type "super") ?_ ⟨rfl, ?_⟩)
    · exact e0.mod.glob.keeps fun b o e => kp _ _ (e0.bs b o e).1
    · exact hmb.keeps fun b o e => kp _ _ (e0.bs b o e).1
    · rw [hmb2 _ (by decide +kernel)]
      decide +kernel
    refine wpAny_loadName_free S.kind (S.frk _ (by simp)) rfl ⟨_, KX1 _ _ hcell, rfl⟩ ?_
    rw [har]
    refine wpAny_loadName_local S.kind (S.par _ (by simp)) hns hself ?_
    refine ks_wpAny_isType_cls hD1 hD2 ⟨rfl, ?_⟩
    exact ks_wpAny_call_super hD1 hD2 hx rfl (fun c z => by cases z) (PySem.W.looks_mroIn KX1 IC.mro) fun h' e k => ⟨rfl, h', e, k, rfl⟩
  obtain ⟨rfl, h2, e2, k2, rfl⟩ := hz
  have KX2 : K.In h2 := KX1.keeps k2
  have hx2 := k2 _ _ hx
  have J2 : PySem.W.InstAt h2 a { cls := .ref C, dict := none, data := .fields #[.ref t1, .none, .none, .none, .bool false, .none] } C none := ⟨hx2, rfl, rfl, trivial⟩
  have hsup := IC.sup
  unfold PySem.W.ks_superIn at hsup
  rw [hcl] at hsup
  refine PySem.W.kxs_getMethod PySem.W.kxs_ValueError (so := h1.objs.size) (D := D) (x := a) (C := C) (l₀ := .ref C :: bm) e2 (PySem.W.looks_opaque KX2 IC.th) (fun A Q E s k q => wpAny_bind ((PySem.W.looks_clsIn KX2 hcl) A _ E s k (wpAny_pure q))) rfl KX2 hsup (J2.type.andThen (PySem.W.looks_subIn KX2 IC.ve)) (PySem.W.ks_ne KX2 J2 hcl) (by decide +kernel) ?_
  have k3 : ∀ b o, h1.get? b = some o → (h2.push (PySem.W.kxs_mw "ValueError.__init__" a)).get? b = some o := fun b o e => Heap.get?_push_of_some _ (k2 b o e)
  have hu : (h2.push (PySem.W.kxs_mw "ValueError.__init__" a)).get? h2.objs.size = some (PySem.W.kxs_mw "ValueError.__init__" a) := Heap.get?_push_size _ rfl
  generalize h2.push (PySem.W.kxs_mw "ValueError.__init__" a) = h3 at k3 hu ⊢
  have KX3 : K.In h3 := KX1.keeps k3
  show wpAny _ _ (callWith p4 (.ref h2.objs.size) [] (backTo p4 ((false, eval (.Name "what" p3) (NdefX.envF F f s.heap.objs.size)) :: starEach [] (NdefX.envF F f s.heap.objs.size))) []) _ _ _
  refine PySem.W.kxs_callWith (i := "ValueError.__init__") (x := a) rfl (Calls.evalArgs_plain (Calls.spliced_cons (wpAny_Name (wpAny_loadName_local S.kind (S.par "what" (by simp)) (hns.keeps k3) hwhat (Calls.spliced_nil ⟨hu, ?_⟩)) (by decide +kernel))))
  have hx3 := k3 _ _ hx
  refine wpAny_call (codeAny_of_tree ?_)
  show wpAny _ (Around.in1 _) (callAny (.ref h2.objs.size) ⟨[u1], []⟩) _ _ _
  simp only [callAny]
  refine wpAny_bind (wpAny_load hu ?_)
  simp only [PySem.W.kxs_mw, show (Value.type "method-wrapper" == Value.type "method" || Value.type "method-wrapper" == Value.type "builtin_function_or_method" || Value.type "method-wrapper" == Value.type "method-wrapper") = true by decide, if_true]
  refine PySem.W.KFB.if_so (by decide) ?_
  refine wpAny_bind (PySem.W.check_bound_init PySem.F.excBase_ValueError.toExcCallFacts (KX3 _ _ hC) hx3 rfl ?_)
  refine wpAny_bind (wpAny_pure (wpAny_pure ?_))
  refine ⟨plainId_quiet PySem.F.excBase_ValueError.init.plain _, codeAny_builtin PySem.F.excBase_ValueError.initEntry ?_⟩
  refine PySem.W.exc_init_tree (cls := .ref C) (t0 := t1) (dv := none) (c2 := .none) (c3 := .none) (b4 := .bool false) hx3 (show 1 ≤ sizeLine by decide) fun h4 k4 e4 t4 => ?_
  have I4 := I0.write (t' := s.toks + 2 + 1) (h' := h4) (x := a) (e := a) (o := exo a C none) (by rw [ea]; exact True.intro) (.inl rfl) (fun b u hb hbu => k4 b u hb (k3 b u hbu)) ⟨_, e4⟩ (exo_ok e4)
  have eu : upd H a (exo a C none) = H := by
    funext b
    by_cases hb : b = a
    · rw [hb, upd_same, ea]
    · rw [upd_ne hb]
  rw [eu] at I4
  have P2 := (pss_cons (ps_ost (X := NdefX.ncx (L2.CX P wd) P wd K mg base ["self", "what", "__class__"] F f A outer s H E) (f := "what") (p' := q1) (pos := q3) (pv 0 (pos := q0) (hv := .inl (S.par "self" (by simp)))) (pv 1 (pos := q2) (hv := .inl (S.par "what" (by simp)))) (hsw2 _)) pss_nil).run [] _ _ H { nx := fun _ H' => Q .non H', rt := Q } I4
    ⟨v, rfl, .ref a, rfl, a, C, rfl, IC.T, IC.wh, .inl ⟨ea, hq⟩⟩
  refine wpAt_of_wpAny (wpAny_mono P2 (fun fl s' hs => ?_) fun e s' hs => hs)
  have fin : ∀ {σ' : L2.St} {H' : Hp} {v : V} {u : Value}, Inv (NdefX.ncx (L2.CX P wd) P wd K mg base ["self", "what", "__class__"] F f A outer s H E) [] σ' H' s' → L2.RelV v u → Q v H' → CE outer P wd H s Q u s' :=
    fun {σ' H' v u} J rv q => ⟨v, H', J.os, J.bare, J.base, J.hok, rv, q⟩
  cases fl with
  | ret u =>
    obtain ⟨v, σ', H', J, rv, q⟩ := hs
    exact fin J rv q
  | next =>
    obtain ⟨σ', H', J, q⟩ := hs
    exact fin (v := V.non) (u := Value.none) J rfl q
  | brk =>
    obtain ⟨_, _, _, q⟩ := hs
    exact False.elim q
  | cont =>
    obtain ⟨_, _, _, q⟩ := hs
    exact False.elim q
end
/-- an exception's class -/
structure XcF (P : Program) (wd : World) (K : PySem.W.Frag) (mg : Str → Option Value) (base : Heap) (C : Addr) : Prop where
  ini : ∃ (D fI : Addr) (fd : FuncData), IniC K C D ∧ PySem.W.findIn K (.ref C) "__init__" = some (some (.ref fI)) ∧ PySem.W.typeIn K (.ref fI) = some (.type "function") ∧ FnOk P wd K mg base (L2.CX P wd) 0 fI fd ["self", "what"] (spI K D) ∧ Binds K fd ["self", "what"] [] ∧ Binds K fd ["self", "what"] [.none]
  E : ExcC K C
structure Slots (I : Inf) (M : List Addr) (H : Hp) (env : Env) (σ : L2.St) : Prop where
  len : env.length = σ.length
  get : ∀ (i : Nat) (w : W), env[i]? = some (some w) → ∃ v, σ[i]? = some (some v) ∧ RepW I M H w v
theorem Slots.mono {I : Inf} {S S' : Sto} {M M' : List Addr} {H H' : Hp} {env : Env} {σ : L2.St} (s : Slots I M (mask S M H) env σ) (l : Le S M H S' M' H') : Slots I M' (mask S' M' H') env σ :=
  ⟨s.len, fun i w e => let ⟨v, a, b⟩ := s.get i w e; ⟨v, a, b.mono l⟩⟩
theorem Slots.set {I : Inf} {M : List Addr} {H : Hp} {env : Env} {σ : L2.St} {i : Nat} {w : W} {v : V} (s : Slots I M H env σ) (r : RepW I M H w v) : Slots I M H (env.set i (some w)) (σ.set i (some v)) := by
  refine ⟨by simp [s.len], fun j u e => ?_⟩
  rw [List.getElem?_set] at e
  rw [List.getElem?_set]
  by_cases h : i = j
  · rw [if_pos h] at e ⊢
    by_cases hi : i < env.length
    · rw [if_pos hi] at e
      have q : w = u := by simpa using e
      rw [if_pos (by rw [← s.len]; exact hi)]
      exact ⟨v, rfl, q ▸ r⟩
    · rw [if_neg hi] at e
      cases e
  · rw [if_neg h] at e ⊢
    exact s.get j u e
theorem Slots.unset {I : Inf} {M : List Addr} {H : Hp} {env : Env} {σ : L2.St} {i : Nat} (s : Slots I M H env σ) : Slots I M H (env.set i none) σ := by
  refine ⟨by simp [s.len], fun j u e => ?_⟩
  rw [List.getElem?_set] at e
  by_cases h : i = j
  · rw [if_pos h] at e
    split at e
    · simp at e
    · cases e
  · rw [if_neg h] at e
    exact s.get j u e
/-- what an ending asks -/
def EndR {α β : Type} (I : Inf) (S : Sto) (M : List Addr) (H : Hp) (rel : List Addr → Hp → α → β → Prop) (Q : β → Hp → Prop) (E : XK) : R α → Prop
  | .ok a S' => ∀ (b : β) (H' : Hp) (M' : List Addr), Le S M H S' M' H' → Sim I S' M' H' → rel M' (mask S' M' H') a b → Q b H'
  | .exc c x S' => ∀ (cls : Value) (dd : Option Addr) (H' : Hp) (M' : List Addr), Le S M H S' M' H' → Sim I S' M' H' → RepX I (mask S' M' H') c x cls dd → E cls dd H'
  | .bad => False
section
variable {α β γ δ : Type} {I : Inf} {S S1 : Sto} {M M1 : List Addr} {H H1 : Hp} {rel : List Addr → Hp → α → β → Prop} {rel1 : List Addr → Hp → γ → δ → Prop} {Q Q' : β → Hp → Prop} {E E' : XK}
theorem EndR.imp {r : R α} (h : EndR I S M H rel Q E r) (hQ : ∀ b H', Q b H' → Q' b H') : EndR I S M H rel Q' E r := by
  cases r with
  | ok a S' => exact fun b H' M' l s q => hQ _ _ (h b H' M' l s q)
  | exc c x S' => exact h
  | bad => exact h
theorem EndR.up {r : R α} (h : EndR I S M H rel Q E r) (l : Le S M H S1 M1 H1) : EndR I S1 M1 H1 rel Q E r := by
  cases r with
  | ok a S' => exact fun b H' M' l' s q => h b H' M' (l.trans l') s q
  | exc c x S' => exact fun cls dd H' M' l' s q => h cls dd H' M' (l.trans l') s q
  | bad => exact h
theorem EndR.bind {r : R γ} {f : γ → Sto → R α} (h : EndR I S M H rel Q E (r.bind f)) :
    EndR I S M H rel1 (fun b H1 => ∃ (a : γ) (S1 : Sto) (M1 : List Addr), Le S M H S1 M1 H1 ∧ Sim I S1 M1 H1 ∧ rel1 M1 (mask S1 M1 H1) a b ∧ EndR I S1 M1 H1 rel Q E (f a S1)) E r := by
  cases r with
  | ok a S' => exact fun b H' M' l s q => ⟨a, S', M', l, s, q, EndR.up (r := f a S') h l⟩
  | exc c x S' => exact h
  | bad => exact h
/-- an ending without change -/
theorem EndR.here {a : α} {b : β} (h : EndR I S M H rel Q E (.ok a S)) (s : Sim I S M H) (r : rel M (mask S M H) a b) : Q b H := h b H M Le.refl s r
end
def rdE (I : Inf) (w : WX) (de : DE) : TE := fun σ H Q => ∃ (env : Env) (S : Sto) (M : List Addr), Sim I S M H ∧ Slots I M (mask S M H) env σ ∧ EndR I S M H (RepW I) Q (fun cls dd H' => w cls dd σ H') (de env S)
def rdT (I : Inf) (w : WX) (dt : DT) : TT := fun σ H Q => ∃ (env : Env) (S : Sto) (M : List Addr), Sim I S M H ∧ Slots I M (mask S M H) env σ ∧ EndR I S M H (fun _ _ a b => a = b) Q (fun cls dd H' => w cls dd σ H') (dt env S)
def rdA (I : Inf) (w : WX) (da : DA) : TA := fun σ H Q => ∃ (env : Env) (S : Sto) (M : List Addr), Sim I S M H ∧ Slots I M (mask S M H) env σ ∧ EndR I S M H (RepWs I) Q (fun cls dd H' => w cls dd σ H') (da env S)
def EndS (I : Inf) (S : Sto) (M : List Addr) (H : Hp) (D : Ends) (w : WX) : RS → Prop
  | .nx e S' => ∀ (σ' : L2.St) (H' : Hp) (M' : List Addr), Le S M H S' M' H' → Sim I S' M' H' → Slots I M' (mask S' M' H') e σ' → D.nx σ' H'
  | .bk e S' => ∀ (σ' : L2.St) (H' : Hp) (M' : List Addr), Le S M H S' M' H' → Sim I S' M' H' → Slots I M' (mask S' M' H') e σ' → D.bk σ' H'
  | .ct e S' => ∀ (σ' : L2.St) (H' : Hp) (M' : List Addr), Le S M H S' M' H' → Sim I S' M' H' → Slots I M' (mask S' M' H') e σ' → D.ct σ' H'
  | .rt a S' => ∀ (v : V) (H' : Hp) (M' : List Addr), Le S M H S' M' H' → Sim I S' M' H' → RepW I M' (mask S' M' H') a v → D.rt v H'
  | .exc c x e S' => ∀ (cls : Value) (dd : Option Addr) (σ' : L2.St) (H' : Hp) (M' : List Addr), Le S M H S' M' H' → Sim I S' M' H' → Slots I M' (mask S' M' H') e σ' → RepX I (mask S' M' H') c x cls dd → w cls dd σ' H'
  | .bad => False
def rdS (I : Inf) (w : WX) (ds : DS) : TS := fun D σ H => ∃ (env : Env) (S : Sto) (M : List Addr), Sim I S M H ∧ Slots I M (mask S M H) env σ ∧ EndS I S M H D w (ds env S)
theorem EndS.up {I : Inf} {S S1 : Sto} {M M1 : List Addr} {H H1 : Hp} {D : Ends} {w : WX} {r : RS} (h : EndS I S M H D w r) (l : Le S M H S1 M1 H1) : EndS I S1 M1 H1 D w r := by
  cases r with
  | nx e S' => exact fun σ' H' M' l' => h σ' H' M' (l.trans l')
  | bk e S' => exact fun σ' H' M' l' => h σ' H' M' (l.trans l')
  | ct e S' => exact fun σ' H' M' l' => h σ' H' M' (l.trans l')
  | rt e S' => exact fun σ' H' M' l' => h σ' H' M' (l.trans l')
  | exc c x e S' => exact fun cls dd σ' H' M' l' => h cls dd σ' H' M' (l.trans l')
  | bad => exact h

theorem PE_imp {X : Cx} {e : Expr} {t t' : TE} (h : PE X e t) (i : ∀ σ H Q, t' σ H Q → t σ H Q) : PE X e t' := ⟨fun pins s σ H Q I q => h.run pins s σ H Q I (i σ H Q q)⟩
theorem PT_imp {X : Cx} {e : Expr} {t t' : TT} (h : PT X e t) (i : ∀ σ H Q, t' σ H Q → t σ H Q) : PT X e t' := ⟨fun pins s σ H Q I q => h.run pins s σ H Q I (i σ H Q q)⟩
theorem PW_imp {X : Cx} {e : Expr} {t t' : TT} (h : PW X e t) (i : ∀ σ H Q, t' σ H Q → t σ H Q) : PW X e t' := ⟨fun wh pins s σ H Q I q => h.run wh pins s σ H Q I (i σ H Q q)⟩
theorem PA_imp {X : Cx} {e : List Expr} {t t' : TA} (h : PA X e t) (i : ∀ σ H Q, t' σ H Q → t σ H Q) : PA X e t' := ⟨fun pos pins s σ H Q I q => h.run pos pins s σ H Q I (i σ H Q q)⟩
theorem PS_imp {X : Cx} {e : Stmt} {t t' : TS} (h : PS X e t) (i : ∀ D σ H, t' D σ H → t D σ H) : PS X e t' := ⟨fun pins s σ H D I q => h.run pins s σ H D I (i D σ H q)⟩
theorem PSs_imp {X : Cx} {e : List Stmt} {t t' : TS} (h : PSs X e t) (i : ∀ D σ H, t' D σ H → t D σ H) : PSs X e t' := ⟨fun pins s σ H D I q => h.run pins s σ H D I (i D σ H q)⟩

/-! ### the program's names -/
structure Sg where
  fl : Nat → List Str
  nm : Nat → Option (Str × Nat)
  mt : Nat → Option (Nat × Str × Nat)
  ini : Nat → Option (Str × Nat × Nat × List (List V))
  kw : Nat → Option (Str × Nat × Nat × Nat × List Str)
  prop : Nat → Option (Nat × Str)
  blt : Str → Bool
  con : Str → Option V
  cn : Str → Option Nat
  sub : Nat → Nat → Bool
  xn : Str → Option Nat
  xs : Nat → Nat → Bool
/-- where the classes stand -/
structure Jn where
  sg : Sg
  G : Nat → Option Addr
  X : Nat → Option Addr
  ex : Option (Addr × Value × Option Addr)
abbrev Jn.inf (J : Jn) (K : PySem.W.Frag) : Inf := ⟨K, J.G, J.sg.fl, J.X, J.ex⟩
/-- a def's promise by its function -/
def spOf (I : Inf) (F : FnTab) (f n : Nat) : Sp := fun vs H Q E => vs.length = n ∧ ∃ (ws : List W) (S : Sto) (M : List Addr), Sim I S M H ∧ RepWs I M (mask S M H) ws vs ∧ EndR I S M H (RepW I) Q E (F f ws S)
/-- what a called def does, F; what an __init__ does, Fi; the classes -/
structure Tb (J : Jn) (P : Program) (wd : World) (K : PySem.W.Frag) (mg : Str → Option Value) (base : Heap) (F Fi : FnTab) (k : Nat) : Prop where
  seer : base.NoSeer
  tree : P.given.tree = none
  ge : 40 ≤ k
  call : ∀ f x n, J.sg.nm f = some (x, n) → ∃ (fa : Addr) (fd : FuncData) (ps : List Str), mg x = some (.ref fa) ∧ PySem.W.keepIn K (.ref fa) = true ∧ FnOk P wd K mg base (L2.CX P wd) (k + 1) fa fd ps (spOf (J.inf K) F f n) ∧ Binds K fd ps []
  meth : ∀ f c m n, J.sg.mt f = some (c, m, n) → ∃ (C fa : Addr) (fd : FuncData) (ps : List Str), J.G c = some C ∧ Meth K C m fa ∧ FnOk P wd K mg base (L2.CX P wd) (k + 1) fa fd ps (spOf (J.inf K) F f n) ∧ Binds K fd ps []
  make : ∀ c x f n dfl, J.sg.ini c = some (x, f, n, dfl) → ∃ (C fa : Addr) (fd : FuncData) (ps : List Str), J.G c = some C ∧ mg x = some (.ref C) ∧ Mk K C fa ∧ FnOk P wd K mg base (L2.CX P wd) k fa fd ps (spOf (J.inf K) Fi f n) ∧ ∀ dvs ∈ dfl, ∃ ds, Vals dvs ds ∧ Binds K fd ps ds
  makeK : ∀ c x f n m ks, J.sg.kw c = some (x, f, n, m, ks) → ∃ (C fa : Addr) (fd : FuncData) (ps : List Str), J.G c = some C ∧ mg x = some (.ref C) ∧ Mk K C fa ∧ FnOk P wd K mg base (L2.CX P wd) k fa fd ps (spOf (J.inf K) Fi f n) ∧ KBn K fd ps (m + 1) ks (fun us ws => us ++ ws) (fun vs zs => vs ++ zs)
  low : ∀ f c m n, J.sg.mt f = some (c, m, n) → ∃ (C fa : Addr) (fd : FuncData) (ps : List Str), J.G c = some C ∧ Meth K C m fa ∧ FnOk P wd K mg base (L2.CX P wd) k fa fd ps (spOf (J.inf K) Fi f n) ∧ Binds K fd ps []
  lowf : ∀ f x n, J.sg.nm f = some (x, n) → ∃ (fa : Addr) (fd : FuncData) (ps : List Str), mg x = some (.ref fa) ∧ FnOk P wd K mg base (L2.CX P wd) k fa fd ps (spOf (J.inf K) Fi f n) ∧ Binds K fd ps []
  fi : ∀ f c m n, J.sg.mt f = some (c, m, n) → ∃ (C fa : Addr), J.G c = some C ∧ Meth K C m fa ∧ PySem.W.fnIn K fa = true
  prop : ∀ f c x, J.sg.prop f = some (c, x) → ∃ (C p g : Addr) (fd : FuncData) (ps : List Str), J.G c = some C ∧ PropOf K C x p g ∧ FnOk P wd K mg base (L2.CX P wd) k g fd ps (spOf (J.inf K) Fi f 1) ∧ Binds K fd ps []
  cls : ∀ c C, J.G c = some C → Cls K C
  nat : ∀ c C x, J.G c = some C → x ∈ J.sg.fl c → NoAttr K C x
  glb : ∀ x, J.sg.blt x = true → mg x = none
  con : ∀ x v, J.sg.con x = some v → ∃ u, mg x = some u ∧ RelV v u
  cnm : ∀ x c, J.sg.cn x = some c → ∃ C, J.G c = some C ∧ mg x = some (.ref C)
  ty : ∀ c C, J.G c = some C → PySem.W.findIn K (.ref C) "__class__" = some (some (.builtin "object.__class__")) ∧ PySem.W.specialIn K (.builtin "object.__class__") "__get__" = some (some (.builtin "getset_descriptor.__get__")) ∧ PySem.W.takesIn K (.builtin "object.__class__") = some true ∧ PySem.W.mroIn K C (.type "object") = some true
  sf : ∀ c C, J.G c = some C → PySem.W.selfFirst K C = true
  isc : ∀ c c' C C', J.G c = some C → J.G c' = some C' → PySem.W.kitOne K (.ref C) (.ref C') = some (J.sg.sub c c')
  isb : ∀ (T : String) c C, T ∈ ["NoneType", "bool", "int", "str", "tuple", "list", "dict"] → J.G c = some C → PySem.W.kitOne K (.type T) (.ref C) = some false
  ist : ∀ (T : String) c C, T ∈ ["NoneType", "bool", "int", "str", "tuple", "list", "dict"] → J.G c = some C → PySem.W.kitOne K (.ref C) (.type T) = some false
  xn : ∀ x c, J.sg.xn x = some c → ∃ C, J.X c = some C ∧ mg x = some (.ref C)
  xc : ∀ c C, J.X c = some C → XcF P wd K mg base C
  xs : ∀ c k C C', J.X c = some C → J.X k = some C' → PySem.W.kitOne K (.ref C) (.ref C') = some (J.sg.xs c k) ∧ PySem.W.exmOne K (.ref C) (.ref C') = some (J.sg.xs c k)
  xv : ∀ c C, J.X c = some C → PySem.W.kitOne K (.ref C) (.type "ValueError") = some true
/-- what the code may lean on -/
structure Cok (J : Jn) (X : Cx) (w : WX) (F Fi : FnTab) (k : Nat) : Prop extends Tb J X.prog X.w X.K X.mg X.base F Fi k where
  calm : X.calm = true
  nd : X.N.Nodup
  tk : Takes X w
  po : PassesOwn (model X.prog X.w) X.A X.env X.xe
  room : Room (k + 1) X.A
  dp : X.A.depth + Builtin.pylongFrames < recursionLimit
  sa : ∃ (env : PySem.Env) (l : List PySem.Env), X.stack = env :: l ∧ env.scope.isGenerator = false ∧ env.scope.isCoroutine = false ∧ env.builtins = builtinsNs ∧ env.globals = mainGlobals
abbrev w0 : WX := fun _ _ _ _ => False
/-- // of great ints goes by _pylong, where there is room -/
theorem Cok.pylong {J : Jn} {X : Cx} {w : WX} {F Fi : FnTab} {k : Nat} (t : Cok J X w F Fi k) {pins : List (Addr × Obj)} {σ : L2.St} {H : Hp} {s : Shared} (In : Inv X pins σ H s) : PylongRoom (model X.prog X.w) X.A s := by
  obtain ⟨env, l, e1, g1, g2, b1, b2⟩ := t.sa
  exact PylongRoom.of In.nolimit t.dp (SeerAt.of (t.seer.keeps In.bk) t.tree (by rw [In.ok.frames, e1]) g1 g2 b1 b2)
theorem Cok.blk {J : Jn} {X : Cx} {w : WX} {F Fi : FnTab} {k : Nat} (c : Cok J X w F Fi k) (s : Shared) (H : Hp) (scope : Scope) (cenv : PySem.Env) (fp : List Addr) : Cok J (X.blk s H scope cenv fp) w0 F Fi k :=
  ⟨c.toTb, c.calm, c.nd, takes0, PassesOwn.never, c.room, c.dp, c.sa⟩
end Py

/-! Py3: expressions. -/
namespace Py
open PySem PySem.Spec PyProof.Rows L2
@[simp] def R.ne {α : Type} : R α → R α
  | .ok a S => .ok a S
  | _ => .bad
theorem EndR.ne {α β : Type} {I : Inf} {S : Sto} {M : List Addr} {H : Hp} {rel : List Addr → Hp → α → β → Prop} {Q : β → Hp → Prop} {E E' : XK} {r : R α} (h : EndR I S M H rel Q E r.ne) : EndR I S M H rel Q E' r := by
  cases r with
  | ok a S' => exact h
  | exc c x S' => exact h.elim
  | bad => exact h

/-! ### what the combinators do -/
@[simp] def dVar (i : Nat) : DE := fun e S => match e[i]? with
  | some (some w) => .ok w S
  | _ => .bad
@[simp] def dC (x : D) : DE := fun _ S => .ok (.d x) S
@[simp] def dOp (f : W → W → Sto → R W) (a b : DE) : DE := fun e S => (a e S).bind fun x S1 => (b e S1).bind fun y S2 => (f x y S2).ne
@[simp] def dUn (f : W → Sto → R W) (a : DE) : DE := fun e S => (a e S).bind fun x S1 => (f x S1).ne
@[simp] def dNil : DA := fun _ S => .ok [] S
@[simp] def dCons (a : DE) (r : DA) : DA := fun e S => (a e S).bind fun x S1 => (r e S1).bind fun xs S2 => .ok (x :: xs) S2
/-- all plain -/
@[simp] def plainL : List W → Option (List D)
  | [] => some []
  | .d x :: r => match plainL r with
    | some xs => some (x :: xs)
    | none => none
  | .c _ :: _ => none
  | .e _ _ :: _ => none
@[simp] def dTup (a : DA) : DE := fun e S => (a e S).bind fun ws S1 => match plainL ws with
  | some xs => if xs.length ≤ sizeLine then .ok (.d (.tup xs)) S1 else .bad
  | none => .bad
@[simp] def dLst (a : DA) : DE := fun e S => (a e S).bind fun ws S1 => match plainL ws with
  | some xs => if xs.length ≤ sizeLine then .ok (.d (.lst xs)) S1 else .bad
  | none => .bad
/-- a list display that is a cell -/
@[simp] def dLstC (a : DA) : DE := fun e S => (a e S).bind fun ws S1 => if ws.length ≤ sizeLine then .ok (.c S1.length) (S1 ++ [.lst ws]) else .bad
/-- the cell is given up: what it holds is plain data from now on -/
@[simp] def frz : W → Sto → R W
  | .d x, S => .ok (.d x) S
  | .c i, S => match S[i]? with
    | some (.lst ws) => match plainL ws with
      | some xs => .ok (.d (.lst xs)) (S.set i .dead)
      | none => .bad
    | _ => .bad
  | .e _ _, _ => .bad
@[simp] def dFrz (a : DE) : DE := fun e S => (a e S).bind frz
/-- what a list or tuple holds -/
@[simp] def seqOf : W → Sto → Option (List W)
  | .d (.tup xs), _ => some (xs.map W.d)
  | .d (.lst xs), _ => some (xs.map W.d)
  | .d (.lsx xs), _ => some (xs.map W.d)
  | .c i, S => match S[i]? with
    | some (.lst ws) => some ws
    | _ => none
  | _, _ => none
@[simp] def opIx : W → W → Sto → R W
  | .d (.str x), .d (.int i), S => if x.length ≤ sizeLine then (match atI x.cps.toList i with
    | some c => .ok (.d (.str ⟨#[c]⟩)) S
    | none => .bad) else .bad
  | w, .d (.int i), S => match seqOf w S with
    | some ws => match atI ws i with
      | some v => .ok v S
      | none => .bad
    | none => .bad
  | _, _, _ => .bad
section
variable {J : Jn} {X : Cx} {w : WX} {a b c : Expr} {es : List Expr} {da db dc : DE} {dr : DA} {pos : Pos}
theorem rdE_dVar {I : Inf} {i : Nat} {σ : L2.St} {H : Hp} {Q : VK} (h : rdE I w (dVar i) σ H Q) : tVar i σ H Q := by
  obtain ⟨e, S, M, sim, sl, p⟩ := h
  unfold dVar at p
  split at p
  · rename_i u hu
    obtain ⟨v, h1, h2⟩ := sl.get i u hu
    exact ⟨v, h1, p.here sim h2⟩
  · exact p.elim
theorem sx_var {I : Inf} {i : Nat} (h : PE X a (tVar i)) : PE X a (rdE I w (dVar i)) := PE_imp h fun _ _ _ => rdE_dVar
theorem sx_c {I : Inf} {v : V} {x : D} (h : PE X a (tC v)) (r : ∀ H, Rep I H x v) : PE X a (rdE I w (dC x)) := PE_imp h fun σ H Q ⟨e, S, M, sim, sl, p⟩ => EndR.here (rel := RepW I) p sim (r _)
theorem sx_int {I : Inf} {i : Int} {j : Nat} : PE X (.Constant (.int i) j pos) (rdE I w (dC (.int i))) := sx_c pe_int fun _ => .int i
theorem sx_bl {I : Inf} {i : Bool} {j : Nat} : PE X (.Constant (.bool i) j pos) (rdE I w (dC (.bl i))) := sx_c pe_bl fun _ => .bl i
theorem sx_non {I : Inf} {j : Nat} : PE X (.Constant .none j pos) (rdE I w (dC .non)) := sx_c pe_non fun _ => .non
theorem sx_str {I : Inf} {i : Str} {j : Nat} : PE X (.Constant (.str i) j pos) (rdE I w (dC (.str i))) := sx_c pe_str fun _ => .str i
/-- a constant of the module that is a text, an int -/
theorem sx_gs {F Fi : FnTab} {k : Nat} {x s : Str} (c : Cok J X w F Fi k) (h : J.sg.con x = some (.str s)) (hg : Gl X x := by rfl) (hd : (x == ("__debug__" : Str)) = false := by decide) : PE X (.Name x pos) (rdE (J.inf X.K) w (dC (.str s))) := by
  obtain ⟨u, h1, h2⟩ := c.con x _ h
  exact sx_c (pe_glob hg h1 h2 hd) fun _ => .str s
theorem sx_gi {F Fi : FnTab} {k : Nat} {x : Str} {i : Int} (c : Cok J X w F Fi k) (h : J.sg.con x = some (.int i)) (hg : Gl X x := by rfl) (hd : (x == ("__debug__" : Str)) = false := by decide) : PE X (.Name x pos) (rdE (J.inf X.K) w (dC (.int i))) := by
  obtain ⟨u, h1, h2⟩ := c.con x _ h
  exact sx_c (pe_glob hg h1 h2 hd) fun _ => .int i
/-- two in a row -/
theorem rd_two {I : Inf} {α β : Type} {rel : List Addr → Hp → α → β → Prop} {σ : L2.St} {H : Hp} {Q : β → Hp → Prop} {f : W → W → Sto → R α} {P : V → V → Hp → Prop}
    (h : ∃ (env : Env) (S : Sto) (M : List Addr), Sim I S M H ∧ Slots I M (mask S M H) env σ ∧ EndR I S M H rel Q (fun cls dd H' => w cls dd σ H') ((da env S).bind fun x S1 => (db env S1).bind fun y S2 => f x y S2))
    (k : ∀ (x y : W) (v u : V) (S : Sto) (M : List Addr) (H : Hp), Sim I S M H → RepW I M (mask S M H) x v → RepW I M (mask S M H) y u → EndR I S M H rel Q (fun cls dd H' => w cls dd σ H') (f x y S) → P v u H) :
    rdE I w da σ H fun v H1 => rdE I w db σ H1 fun u H2 => P v u H2 := by
  obtain ⟨e, S, M, sim, sl, p⟩ := h
  refine ⟨e, S, M, sim, sl, (EndR.bind (rel1 := RepW I) p).imp fun v H1 ⟨x, S1, M1, l1, s1, r1, p1⟩ => ?_⟩
  refine ⟨e, S1, M1, s1, sl.mono l1, (EndR.bind (rel1 := RepW I) p1).imp fun u H2 ⟨y, S2, M2, l2, s2, r2, p2⟩ => ?_⟩
  exact k x y v u S2 M2 H2 s2 (r1.mono l2) r2 p2
theorem rd_one {I : Inf} {α β : Type} {rel : List Addr → Hp → α → β → Prop} {σ : L2.St} {H : Hp} {Q : β → Hp → Prop} {f : Env → W → Sto → R α} {P : V → Hp → Prop}
    (h : ∃ (env : Env) (S : Sto) (M : List Addr), Sim I S M H ∧ Slots I M (mask S M H) env σ ∧ EndR I S M H rel Q (fun cls dd H' => w cls dd σ H') ((da env S).bind fun x S1 => f env x S1))
    (k : ∀ (x : W) (v : V) (env : Env) (S : Sto) (M : List Addr) (H : Hp), Sim I S M H → Slots I M (mask S M H) env σ → RepW I M (mask S M H) x v → EndR I S M H rel Q (fun cls dd H' => w cls dd σ H') (f env x S) → P v H) :
    rdE I w da σ H P := by
  obtain ⟨e, S, M, sim, sl, p⟩ := h
  exact ⟨e, S, M, sim, sl, (EndR.bind (rel1 := RepW I) p).imp fun v H1 ⟨x, S1, M1, l1, s1, r1, p1⟩ => k x v e S1 M1 H1 s1 (sl.mono l1) r1 p1⟩
def rdOp (I : Inf) (f : W → W → Sto → R W) : R2 := fun v u H Q => ∃ (x y : W) (S : Sto) (M : List Addr), Sim I S M H ∧ RepW I M (mask S M H) x v ∧ RepW I M (mask S M H) y u ∧ EndR I S M H (RepW I) Q E0 (f x y S)
def rdUn (I : Inf) (f : W → Sto → R W) : V → Hp → VK → Prop := fun v H Q => ∃ (x : W) (S : Sto) (M : List Addr), Sim I S M H ∧ RepW I M (mask S M H) x v ∧ EndR I S M H (RepW I) Q E0 (f x S)
theorem rd_op {I : Inf} {f : W → W → Sto → R W} {σ : L2.St} {H : Hp} {Q : VK} (h : rdE I w (dOp f da db) σ H Q) : tOp (rdOp I f) (rdE I w da) (rdE I w db) σ H Q :=
  rd_two h fun x y _ _ S M _ s rx ry p => ⟨x, y, S, M, s, rx, ry, p.ne⟩
theorem rd_un {I : Inf} {f : W → Sto → R W} {σ : L2.St} {H : Hp} {Q : VK} (h : rdE I w (dUn f da) σ H Q) : tUn (rdUn I f) (rdE I w da) σ H Q :=
  rd_one h fun x _ _ S M _ s _ rx p => ⟨x, S, M, s, rx, p.ne⟩
theorem sx_op {I : Inf} {op : Operator} {f : W → W → Sto → R W} (ho : OpR X (binaryOp op) (rdOp I f)) (ha : PE X a (rdE I w da)) (hb : PE X b (rdE I w db)) : PE X (.BinOp a op b pos) (rdE I w (dOp f da db)) :=
  PE_imp (pe_op ho ha hb) fun _ _ _ => rd_op
theorem sx_un {I : Inf} {op : UnaryOp} {f : W → Sto → R W} (ho : UnR X (unaryOp op) (rdUn I f)) (ha : PE X a (rdE I w da)) : PE X (.UnaryOp op a pos) (rdE I w (dUn f da)) :=
  PE_imp (pe_un ho ha) fun _ _ _ => rd_un
theorem sx_cmp {I : Inf} {op : CmpOp} {f : W → W → Sto → R W} (ho : OpR X (compareOp op) (rdOp I f)) (ha : PE X a (rdE I w da)) (hb : PE X b (rdE I w db)) (hm : behindInMarks op b = false := by first | exact nomark _ | rfl) : PE X (.Compare a [op] [b] pos) (rdE I w (dOp f da db)) :=
  PE_imp (pe_cmpR ho ha hb hm) fun _ _ _ => rd_op
/-! arguments -/
theorem sa_nil {I : Inf} : PA X [] (rdA I w dNil) := PA_imp pa_nil fun σ H Q ⟨e, S, M, sim, sl, p⟩ => EndR.here (rel := RepWs I) p sim .nil
theorem sa_cons {I : Inf} (ha : PE X a (rdE I w da)) (hr : PA X es (rdA I w dr)) (hs : starEach (a :: es) X.env = (false, eval a X.env) :: starEach es X.env := by rfl) : PA X (a :: es) (rdA I w (dCons da dr)) :=
  PA_imp (pa_cons ha hr hs) fun σ H Q h => by
    obtain ⟨e, S, M, sim, sl, p⟩ := h
    refine ⟨e, S, M, sim, sl, (EndR.bind (rel1 := RepW I) p).imp fun v H1 ⟨x, S1, M1, l1, s1, r1, p1⟩ => ?_⟩
    refine ⟨e, S1, M1, s1, sl.mono l1, (EndR.bind (rel1 := RepWs I) p1).imp fun u H2 ⟨y, S2, M2, l2, s2, r2, p2⟩ => ?_⟩
    exact p2.here s2 (.cons (r1.mono l2) r2)
theorem rd_args {I : Inf} {α β : Type} {rel : List Addr → Hp → α → β → Prop} {σ : L2.St} {H : Hp} {Q : β → Hp → Prop} {f : List W → Sto → R α} {P : List V → Hp → Prop}
    (h : ∃ (env : Env) (S : Sto) (M : List Addr), Sim I S M H ∧ Slots I M (mask S M H) env σ ∧ EndR I S M H rel Q (fun cls dd H' => w cls dd σ H') ((dr env S).bind fun x S1 => f x S1))
    (k : ∀ (x : List W) (v : List V) (env : Env) (S : Sto) (M : List Addr) (H : Hp), Sim I S M H → Slots I M (mask S M H) env σ → RepWs I M (mask S M H) x v → EndR I S M H rel Q (fun cls dd H' => w cls dd σ H') (f x S) → P v H) :
    rdA I w dr σ H P := by
  obtain ⟨e, S, M, sim, sl, p⟩ := h
  exact ⟨e, S, M, sim, sl, (EndR.bind (rel1 := RepWs I) p).imp fun v H1 ⟨x, S1, M1, l1, s1, r1, p1⟩ => k x v e S1 M1 H1 s1 (sl.mono l1) r1 p1⟩
theorem plainL_rep {I : Inf} {M : List Addr} {H : Hp} : ∀ {ws : List W} {vs : List V} {xs : List D}, RepWs I M H ws vs → plainL ws = some xs → Reps I H xs vs
  | [], _, xs, .nil, e => by
    unfold plainL at e
    cases e
    exact .nil
  | .d x :: r, _, xs, .cons h t, e => by
    unfold plainL at e
    split at e
    · rename_i ys q
      cases e
      exact .cons h (plainL_rep t q)
    · cases e
  | .c _ :: _, _, xs, .cons _ _, e => by
    unfold plainL at e
    cases e
  | .e _ _ :: _, _, xs, .cons _ _, e => by
    unfold plainL at e
    cases e
theorem plainL_len : ∀ {ws : List W} {xs : List D}, plainL ws = some xs → xs.length = ws.length
  | [], xs, e => by
    unfold plainL at e
    cases e
    rfl
  | .d x :: r, xs, e => by
    unfold plainL at e
    split at e
    · rename_i ys q
      cases e
      simp [plainL_len q]
    · cases e
  | .c _ :: _, xs, e => by
    unfold plainL at e
    cases e
  | .e _ _ :: _, xs, e => by
    unfold plainL at e
    cases e
/-- a new thing is data -/
theorem new_d {I : Inf} {S : Sto} {M : List Addr} {H : Hp} {Q : VK} {E : XK} {x : D} {o : HO} {p : Addr} (h : EndR I S M H (RepW I) Q E (.ok (.d x) S)) (s : Sim I S M H) (np : H p = none)
    (r : ∀ H', H' p = some o → Ex (mask S M H) H' → Rep I H' x (.ref p)) : Q (.ref p) (upd H p o) := by
  obtain ⟨s', l⟩ := s.new (o := o) np
  exact h (.ref p) (upd H p o) M l s' (r _ (mask_new s np) l.ex)
theorem sx_tup {I : Inf} {x1 : Nat} (h : PA X es (rdA I w dr)) : PE X (.Tuple es x1 pos) (rdE I w (dTup dr)) :=
  PE_imp (pe_tup h) fun σ H Q q => rd_args q fun ws vs e S M H s sl r p => by
    split at p
    · rename_i xs hx
      have rr := plainL_rep r hx
      split at p
      · rename_i hl
        refine ⟨by rw [← rr.len]; exact hl, fun a na => new_d p s na fun H' ha ex => .tup (.inl (.inl ha)) (rr.mono ex)⟩
      · exact p.elim
    · exact p.elim
theorem sx_lst {I : Inf} (h : PA X es (rdA I w dr)) : PE X (.List es pos) (rdE I w (dLst dr)) :=
  PE_imp (pe_lst h) fun σ H Q q => rd_args q fun ws vs e S M H s sl r p => by
    split at p
    · rename_i xs hx
      have rr := plainL_rep r hx
      split at p
      · rename_i hl
        refine ⟨by rw [← rr.len]; exact hl, fun a na => new_d p s na fun H' ha ex => .lst ha (rr.mono ex)⟩
      · exact p.elim
    · exact p.elim
theorem low_of {I : Inf} {S : Sto} {M : List Addr} {H H' : Hp} {w : W} {v : V} (s : Sim I S M H) (r : RepW I M H' w v) : w.low S.length := by
  cases w with
  | d x => trivial
  | c i =>
    obtain ⟨a, e, _⟩ := r
    show i < S.length
    rw [← s.len]
    exact (List.getElem?_eq_some_iff.mp e).1
  | e c x => trivial
theorem lows_of {I : Inf} {S : Sto} {M : List Addr} {H H' : Hp} {ws : List W} {vs : List V} (s : Sim I S M H) (r : RepWs I M H' ws vs) : ∀ w ∈ ws, w.low S.length := by
  induction r with
  | nil => intro w m; cases m
  | cons r t ih =>
    intro w m
    rcases List.mem_cons.mp m with rfl | m
    · exact low_of s r
    · exact ih w m
theorem new_c {I : Inf} {S : Sto} {M : List Addr} {H : Hp} {Q : VK} {E : XK} {c : Ce} {o : HO} {p : Addr} (h : EndR I S M H (RepW I) Q E (.ok (.c S.length) (S ++ [c]))) (s : Sim I S M H) (np : H p = none) (lo : c.low S.length)
    (hc : CeAt I M (mask S M H) (some o) c) (hd : c ≠ .dead) : Q (.ref p) (upd H p o) := by
  obtain ⟨s', l⟩ := s.newC np lo hc hd
  refine h (.ref p) (upd H p o) _ l s' ⟨p, ?_, rfl⟩
  rw [List.getElem?_append_right (by rw [s.len]; exact Nat.le_refl _), s.len, Nat.sub_self]
  rfl
theorem sx_lstC {I : Inf} (h : PA X es (rdA I w dr)) : PE X (.List es pos) (rdE I w (dLstC dr)) :=
  PE_imp (pe_lst h) fun σ H Q q => rd_args q fun ws vs e S M H s sl r p => by
    split at p
    · rename_i hl
      refine ⟨by rw [← Paired.length r]; exact hl, fun a na => new_c p s na (lows_of s r) ⟨vs, rfl, r⟩ (by intro z; cases z)⟩
    · exact p.elim
theorem sx_frz {I : Inf} (h : PE X a (rdE I w da)) : PE X a (rdE I w (dFrz da)) :=
  PE_imp h fun σ H Q q => rd_one q fun x v e S M H s sl r p => by
    cases x with
    | d x => exact p.here s r
    | e c x => exact p.elim
    | c i =>
      dsimp only [frz] at p
      split at p
      · rename_i ws hc
        split at p
        · rename_i xs hx
          obtain ⟨a, ea, rfl⟩ := r
          obtain ⟨vs, ho, rw'⟩ := s.cell i _ a hc ea
          obtain ⟨s', l⟩ := s.kill hc
          refine p (.ref a) H M l s' (.lst ?_ ((plainL_rep rw' hx).mono l.ex))
          rw [mask_dead s hc ea]
          exact ho
        · exact p.elim
      · exact p.elim
end
end Py

/-! Py4: operators by values, calls of built-in functions. -/
namespace Py
open PySem PySem.Spec PyProof.Rows L2
/-! ints -/
@[simp] def opSub : W → W → Sto → R W
  | .d (.int i), .d (.int j), S => .ok (.d (.int (i - j))) S
  | _, _, _ => .bad
instance (i j : Int) : Decidable (IntMulOk i j) := by unfold IntMulOk; infer_instance
@[simp] def opMul : W → W → Sto → R W
  | .d (.int i), .d (.int j), S => if IntMulOk i j then .ok (.d (.int (i * j))) S else .bad
  | _, _, _ => .bad
@[simp] def opDiv : W → W → Sto → R W
  | .d (.int i), .d (.int j), S => if j ≠ 0 then .ok (.d (.int (i.fdiv j))) S else .bad
  | _, _, _ => .bad
@[simp] def opMod : W → W → Sto → R W
  | .d (.int i), .d (.int j), S => if j ≠ 0 then .ok (.d (.int (i.fmod j))) S else .bad
  | _, _, _ => .bad
@[simp] def opPow : W → W → Sto → R W
  | .d (.int i), .d (.int j), S => if 0 ≤ j ∧ j ≤ 1000000 ∧ i.natAbs < 2 ^ 64 then .ok (.d (.int (i ^ j.toNat))) S else .bad
  | _, _, _ => .bad
@[simp] def opNeg : W → Sto → R W
  | .d (.int i), S => .ok (.d (.int (-i))) S
  | _, _ => .bad
/-- the lists that + takes -/
@[simp] def lstOf : W → Sto → Option (List D)
  | .d (.lst xs), _ => some xs
  | .c i, S => match S[i]? with
    | some (.lst ws) => plainL ws
    | _ => none
  | _, _ => none
@[simp] def opAdd : W → W → Sto → R W
  | .d (.int i), .d (.int j), S => .ok (.d (.int (i + j))) S
  | .d (.str i), .d (.str j), S => if i.length + j.length ≤ sizeLine then .ok (.d (.str (i ++ j))) S else .bad
  | .d (.tup xs), .d (.tup ys), S => if xs.length + ys.length ≤ sizeLine then .ok (.d (.tup (xs ++ ys))) S else .bad
  | x, y, S => match lstOf x S, lstOf y S with
    | some xs, some ys => if xs.length + ys.length ≤ sizeLine then .ok (.d (.lst (xs ++ ys))) S else .bad
    | _, _ => .bad
/-! comparisons of scalars -/
@[simp] def eqS : D → D → Option Bool
  | .non, .non => some true
  | .non, .int _ => some false
  | .int _, .non => some false
  | .non, .bl _ => some false
  | .bl _, .non => some false
  | .non, .str _ => some false
  | .str _, .non => some false
  | .int i, .int j => some (decide (i = j))
  | .bl i, .bl j => some (decide (i = j))
  | .str i, .str j => some (decide (i = j))
  | .int _, .str _ => some false
  | .str _, .int _ => some false
  | .bl _, .str _ => some false
  | .str _, .bl _ => some false
  | _, _ => none
@[simp] def opEqS : W → W → Sto → R W
  | .d x, .d y, S => match eqS x y with
    | some b => .ok (.d (.bl b)) S
    | none => .bad
  | _, _, _ => .bad
@[simp] def opNeS : W → W → Sto → R W
  | .d x, .d y, S => match eqS x y with
    | some b => .ok (.d (.bl (!b))) S
    | none => .bad
  | _, _, _ => .bad
@[simp] def opLt : W → W → Sto → R W
  | .d (.int i), .d (.int j), S => .ok (.d (.bl (decide (i < j)))) S
  | .d (.str i), .d (.str j), S => .ok (.d (.bl (decide (i.cps.toList < j.cps.toList)))) S
  | _, _, _ => .bad
@[simp] def opLe : W → W → Sto → R W
  | .d (.int i), .d (.int j), S => .ok (.d (.bl (decide (i ≤ j)))) S
  | _, _, _ => .bad
@[simp] def opGt : W → W → Sto → R W
  | .d (.int i), .d (.int j), S => .ok (.d (.bl (decide (j < i)))) S
  | _, _, _ => .bad
@[simp] def opGe : W → W → Sto → R W
  | .d (.int i), .d (.int j), S => .ok (.d (.bl (decide (j ≤ i)))) S
  | _, _, _ => .bad
@[simp] def isN : W → Bool
  | .d .non => true
  | _ => false
@[simp] def opIs : W → W → Sto → R W
  | x, .d .non, S => .ok (.d (.bl (isN x))) S
  | _, _, _ => .bad
@[simp] def opIsNot : W → W → Sto → R W
  | x, .d .non, S => .ok (.d (.bl (!isN x))) S
  | _, _, _ => .bad
section
variable {X : Cx} {I : Inf}
/-- an operation on two ints -/
theorem or_int {f : Value → Value → Sem Value} {g : W → W → Sto → R W} {C : Int → Int → Prop} {h : Int → Int → D} {hv : Int → Int → V} (hr : ∀ H i j, Rep I H (h i j) (hv i j)) (o : OpR X f (rI C fun i j => hv i j))
    (hg : ∀ x y S, g x y S = .bad ∨ ∃ i j, x = .d (.int i) ∧ y = .d (.int j) ∧ (g x y S = .bad ∨ (C i j ∧ g x y S = .ok (.d (h i j)) S))) : OpR X f (rdOp I g) := by
  intro pins s σ H v u ov ou Q In rv ru hh
  obtain ⟨x, y, S, M, sim, rx, ry, p⟩ := hh
  rcases hg x y S with e | ⟨i, j, rfl, rfl, e⟩
  · rw [e] at p
    exact p.elim
  · cases rx
    cases ry
    rcases e with e | ⟨hc, e⟩
    · rw [e] at p
      exact p.elim
    · rw [e] at p
      exact o pins s σ H _ _ ov ou Q In rv ru ⟨i, j, rfl, rfl, hc, p.here sim (hr _ i j)⟩
theorem rI_of {X : Cx} {f : Value → Value → Sem Value} {g : Int → Int → V} (h : OpR X f (rI0 g)) : OpR X f (rI (fun _ _ => True) g) := fun pins s σ H x y v u Q I rx ry ⟨i, j, a, b, _, q⟩ => h pins s σ H x y v u Q I rx ry ⟨i, j, a, b, q⟩
theorem o_sub : OpR X (binaryOp .Sub) (rdOp I opSub) := or_int (C := fun _ _ => True) (h := fun i j => .int (i - j)) (fun _ i j => .int _) (rI_of op_sub) fun x y S => by
  unfold opSub
  split
  · exact .inr ⟨_, _, rfl, rfl, .inr ⟨trivial, rfl⟩⟩
  · exact .inl rfl
theorem o_mul : OpR X (binaryOp .Mult) (rdOp I opMul) := or_int (C := IntMulOk) (h := fun i j => .int (i * j)) (fun _ i j => .int _) (opI fun _ _ _ _ _ _ _ hc q => mul_int q hc) fun x y S => by
  unfold opMul
  split
  · refine .inr ⟨_, _, rfl, rfl, ?_⟩
    split
    · exact .inr ⟨by assumption, rfl⟩
    · exact .inl rfl
  · exact .inl rfl
theorem o_div {J : Jn} {w : WX} {F Fi : FnTab} {k : Nat} (t : Cok J X w F Fi k) : OpR X (binaryOp .FloorDiv) (rdOp I opDiv) := or_int (C := fun _ j => j ≠ 0) (h := fun i j => .int (i.fdiv j)) (fun _ i j => .int _) (fun pins s σ H x y v u Q In rx ry h => by
    obtain ⟨i, j, rfl, rfl, hc, q⟩ := h
    obtain ⟨t1, rfl⟩ := rx
    obtain ⟨t2, rfl⟩ := ry
    exact floordiv_int hc ⟨.int _, H, In.tok _, ⟨_, rfl⟩, q⟩ (.inr (t.pylong In))) fun x y S => by
  unfold opDiv
  split
  · refine .inr ⟨_, _, rfl, rfl, ?_⟩
    split
    · exact .inr ⟨by assumption, rfl⟩
    · exact .inl rfl
  · exact .inl rfl
theorem o_mod : OpR X (binaryOp .Mod) (rdOp I opMod) := or_int (C := fun _ j => j ≠ 0) (h := fun i j => .int (i.fmod j)) (fun _ i j => .int _) op_modN fun x y S => by
  unfold opMod
  split
  · refine .inr ⟨_, _, rfl, rfl, ?_⟩
    split
    · exact .inr ⟨by assumption, rfl⟩
    · exact .inl rfl
  · exact .inl rfl
theorem o_pow : OpR X (binaryOp .Pow) (rdOp I opPow) := or_int (C := CPow) (h := fun i j => .int (i ^ j.toNat)) (fun _ i j => .int _) op_pow fun x y S => by
  unfold opPow
  split
  · refine .inr ⟨_, _, rfl, rfl, ?_⟩
    split
    · exact .inr ⟨by assumption, rfl⟩
    · exact .inl rfl
  · exact .inl rfl
theorem u_neg : UnR X (unaryOp .USub) (rdUn I opNeg) := by
  intro pins s σ H v ov Q In rv hh
  obtain ⟨x, S, M, sim, rx, p⟩ := hh
  unfold opNeg at p
  split at p
  · cases rx
    exact un_neg pins s σ H _ ov Q In rv ⟨_, rfl, p.here sim (.int _)⟩
  · exact p.elim
theorem lstOf_at {S : Sto} {M : List Addr} {H : Hp} {x : W} {v : V} {xs : List D} (sim : Sim I S M H) (r : RepW I M (mask S M H) x v) (e : lstOf x S = some xs) : ∃ a vs, v = .ref a ∧ H a = some (.lst vs) ∧ Reps I (mask S M H) xs vs := by
  unfold lstOf at e
  split at e
  · cases e
    cases r with
    | lst h q => exact ⟨_, _, rfl, mask_ex _ _ h, q⟩
  · split at e
    · rename_i ws hc
      obtain ⟨a, ea, rfl⟩ := r
      obtain ⟨vs, ho, q⟩ := sim.cell _ _ a hc ea
      exact ⟨a, vs, rfl, ho, plainL_rep q e⟩
    · cases e
  · cases e
theorem o_add : OpR X (binaryOp .Add) (rdOp ⟨X.K, I.G, I.fl, I.X, I.ex⟩ opAdd) := by
  intro pins s σ H v u ov ou Q In rv ru hh
  obtain ⟨x, y, S, M, sim, rx, ry, p⟩ := hh
  unfold opAdd at p
  split at p
  · cases rx
    cases ry
    exact op_add pins s σ H _ _ ov ou Q In rv ru ⟨_, _, rfl, rfl, p.here sim (.int _)⟩
  · split at p
    · cases rx
      cases ry
      exact op_add_str pins s σ H _ _ ov ou Q In rv ru ⟨_, _, rfl, rfl, by assumption, p.here sim (.str _)⟩
    · exact p.elim
  · split at p
    · rename_i xs ys S' hl
      cases rx with
      | tup h1 r1 =>
      cases ry with
      | tup h2 r2 =>
      refine op_catA pins s σ H _ _ ov ou Q In rv ru ⟨_, _, _, _, rfl, rfl, ex_t mask_ex h1, ex_t mask_ex h2, by rw [← r1.len, ← r2.len]; exact hl, fun e => ?_, fun e e' => ?_, fun _ _ a na => new_d p sim na fun H' ha ex => .tup (.inl (.inl ha)) ((r1.append r2).mono ex)⟩
      · subst e
        cases r1
        exact p.here sim (.tup h2 r2)
      · subst e'
        cases r2
        rw [List.append_nil] at p
        exact p.here sim (.tup h1 r1)
    · exact p.elim
  · split at p
    · rename_i xs ys e1 e2
      split at p
      · rename_i hl
        obtain ⟨a, vs, rfl, h1, r1⟩ := lstOf_at sim rx e1
        obtain ⟨b, us, rfl, h2, r2⟩ := lstOf_at sim ry e2
        exact op_cat pins s σ H _ _ ov ou Q In rv ru ⟨a, b, vs, us, rfl, rfl, h1, h2, by rw [← r1.len, ← r2.len]; exact hl, fun q nq => new_d p sim nq fun H' ha ex => .lst ha ((r1.append r2).mono ex)⟩
      · exact p.elim
    · exact p.elim
theorem eqS_rep {H : Hp} {x y : D} {v u : V} {b : Bool} (rx : Rep I H x v) (ry : Rep I H y u) (e : eqS x y = some b) : scal v u = true ∧ b = decide (v = u) := by
  unfold eqS at e
  split at e <;> cases e <;> cases rx <;> cases ry <;> refine ⟨rfl, ?_⟩ <;> simp
theorem o_eq : OpR X (compareOp .Eq) (rdOp I opEqS) := by
  intro pins s σ H v u ov ou Q In rv ru hh
  obtain ⟨x, y, S, M, sim, rx, ry, p⟩ := hh
  unfold opEqS at p
  split at p
  · split at p
    · rename_i b e
      obtain ⟨h1, h2⟩ := eqS_rep rx ry e
      subst h2
      exact op_eq pins s σ H _ _ ov ou Q In rv ru ⟨h1, p.here sim (.bl _)⟩
    · exact p.elim
  · exact p.elim
theorem o_ne : OpR X (compareOp .NotEq) (rdOp I opNeS) := by
  intro pins s σ H v u ov ou Q In rv ru hh
  obtain ⟨x, y, S, M, sim, rx, ry, p⟩ := hh
  unfold opNeS at p
  split at p
  · split at p
    · rename_i b e
      obtain ⟨h1, h2⟩ := eqS_rep rx ry e
      subst h2
      exact op_ne pins s σ H _ _ ov ou Q In rv ru ⟨h1, p.here sim (.bl _)⟩
    · exact p.elim
  · exact p.elim
theorem o_lt : OpR X (compareOp .Lt) (rdOp I opLt) := by
  intro pins s σ H v u ov ou Q In rv ru hh
  obtain ⟨x, y, S, M, sim, rx, ry, p⟩ := hh
  unfold opLt at p
  split at p
  · cases rx
    cases ry
    exact op_lt pins s σ H _ _ ov ou Q In rv ru ⟨_, _, rfl, rfl, p.here sim (.bl _)⟩
  · cases rx
    cases ry
    exact op_lt_str pins s σ H _ _ ov ou Q In rv ru ⟨_, _, rfl, rfl, p.here sim (.bl _)⟩
  · exact p.elim
theorem o_le : OpR X (compareOp .LtE) (rdOp I opLe) := or_int (C := fun _ _ => True) (h := fun i j => .bl (decide (i ≤ j))) (fun _ i j => .bl _) (rI_of op_le) fun x y S => by
  unfold opLe
  split
  · exact .inr ⟨_, _, rfl, rfl, .inr ⟨trivial, rfl⟩⟩
  · exact .inl rfl
theorem o_gt : OpR X (compareOp .Gt) (rdOp I opGt) := or_int (C := fun _ _ => True) (h := fun i j => .bl (decide (j < i))) (fun _ i j => .bl _) (rI_of op_gt) fun x y S => by
  unfold opGt
  split
  · exact .inr ⟨_, _, rfl, rfl, .inr ⟨trivial, rfl⟩⟩
  · exact .inl rfl
theorem o_ge : OpR X (compareOp .GtE) (rdOp I opGe) := or_int (C := fun _ _ => True) (h := fun i j => .bl (decide (j ≤ i))) (fun _ i j => .bl _) (rI_of op_ge) fun x y S => by
  unfold opGe
  split
  · exact .inr ⟨_, _, rfl, rfl, .inr ⟨trivial, rfl⟩⟩
  · exact .inl rfl
theorem isN_rep {M : List Addr} {H : Hp} {x : W} {v : V} (r : RepW I M H x v) : isN x = decide (v = .non) := by
  cases x with
  | c i => obtain ⟨a, _, rfl⟩ := r; rfl
  | e c x => obtain ⟨a, _, _, _, rfl, _⟩ := r; rfl
  | d x => cases r <;> rfl
theorem o_is : OpR X (compareOp .Is) (rdOp I opIs) := by
  intro pins s σ H v u ov ou Q In rv ru hh
  obtain ⟨x, y, S, M, sim, rx, ry, p⟩ := hh
  unfold opIs at p
  split at p
  · cases ry
    rw [isN_rep rx] at p
    exact op_isN pins s σ H _ _ ov ou Q In rv ru ⟨rfl, p.here sim (.bl _)⟩
  · exact p.elim
theorem o_isnot : OpR X (compareOp .IsNot) (rdOp I opIsNot) := by
  intro pins s σ H v u ov ou Q In rv ru hh
  obtain ⟨x, y, S, M, sim, rx, ry, p⟩ := hh
  unfold opIsNot at p
  split at p
  · cases ry
    rw [isN_rep rx] at p
    exact op_notN pins s σ H _ _ ov ou Q In rv ru ⟨rfl, p.here sim (.bl _)⟩
  · exact p.elim
end
/-! ### subscripts -/
section
variable {J : Jn} {X : Cx} {w : WX} {a b : Expr} {es : List Expr} {da db : DE} {dr : DA} {pos : Pos} {I : Inf}
theorem reps_map {M : List Addr} {H : Hp} {xs : List D} {vs : List V} (r : Reps I H xs vs) : RepWs I M H (xs.map W.d) vs := by
  induction xs generalizing vs with
  | nil => cases r; exact .nil
  | cons x xs ih => cases r with | cons r t => exact .cons r (ih t)
theorem seqOf_at {S : Sto} {M : List Addr} {H : Hp} {x : W} {v : V} {ws : List W} (sim : Sim I S M H) (r : RepW I M (mask S M H) x v) (e : seqOf x S = some ws) : ∃ a vs, v = .ref a ∧ (SqL I.K H a vs ∨ SqT I.K H a vs) ∧ RepWs I M (mask S M H) ws vs := by
  unfold seqOf at e
  split at e
  · cases e
    cases r with
    | tup h q => exact ⟨_, _, rfl, .inr (ex_t mask_ex h), reps_map q⟩
  · cases e
    cases r with
    | lst h q => exact ⟨_, _, rfl, .inl (.inl (.inl (mask_ex _ _ h))), reps_map q⟩
  · cases e
    cases r with
    | lsx h q => exact ⟨_, _, rfl, .inl (ex_l mask_ex h), reps_map q⟩
  · split at e
    · rename_i y i hc
      cases e
      obtain ⟨a, ea, rfl⟩ := r
      obtain ⟨vs, ho, q⟩ := sim.cell _ _ a hc ea
      exact ⟨a, vs, rfl, .inl (.inl (.inl ho)), q⟩
    · cases e
  · cases e
theorem atI_rep {M : List Addr} {H : Hp} {ws : List W} {vs : List V} {i : Int} {x : W} (r : RepWs I M H ws vs) (e : atI ws i = some x) : ∃ v, atI vs i = some v ∧ RepW I M H x v := by
  unfold atI at e ⊢
  rw [← Paired.length r]
  cases q : ixN ws.length i with
  | none => rw [q] at e; cases e
  | some j =>
    rw [q] at e
    have e : ws[j]? = some x := e
    show ∃ v, vs[j]? = some v ∧ RepW I M H x v
    exact paired_get r e
theorem ix_all : IxR X (rdOp ⟨X.K, I.G, I.fl, I.X, I.ex⟩ opIx) := by
  intro value slice pins s σ H v u ov ou Q In rv ru hh hs
  obtain ⟨x, y, S, M, sim, rx, ry, p⟩ := hh
  unfold opIx at p
  split at p
  · split at p
    · rename_i hl
      split at p
      · rename_i c hc
        cases rx
        cases ry
        exact ix_str value slice pins s σ H _ _ ov ou Q In rv ru ⟨_, _, c, rfl, rfl, hl, hc, p.here sim (.str _)⟩ hs
      · exact p.elim
    · exact p.elim
  · split at p
    · rename_i ws hw
      split at p
      · rename_i q hq
        cases ry
        obtain ⟨a, vs, rfl, ht, r⟩ := seqOf_at sim rx hw
        obtain ⟨v, hv, rq⟩ := atI_rep r hq
        rcases ht with ht | ht
        · exact ix_list value slice pins s σ H _ _ ov ou Q In rv ru ⟨a, vs, _, v, rfl, rfl, ht, hv, p.here sim rq⟩ hs
        · exact ix_tup value slice pins s σ H _ _ ov ou Q In rv ru ⟨a, vs, _, v, rfl, rfl, ht, hv, p.here sim rq⟩ hs
      · exact p.elim
    · exact p.elim
  · exact p.elim
theorem sx_ix (ha : PE X a (rdE ⟨X.K, I.G, I.fl, I.X, I.ex⟩ w da)) (hb : PE X b (rdE ⟨X.K, I.G, I.fl, I.X, I.ex⟩ w db)) (hs : PlainIx b := by exact fun _ _ => rfl) : PE X (.Subscript a b pos) (rdE ⟨X.K, I.G, I.fl, I.X, I.ex⟩ w (dOp opIx da db)) :=
  PE_imp (pe_ix ix_all ha hb hs) fun _ _ _ => rd_op
end
end Py

/-! Py5: calls of defs, classes, methods; attributes. -/
namespace Py
open PySem PySem.Spec PyProof.Rows L2
/-! ### with the wish at the slots -/
section
variable {X : Cx} {CX : CXT} {k : Nat} {f C : Addr} {fd : FuncData} {ps : List Str} {sp : Sp} {dvs : List V} {ds : List Value} {E : L2.St → XK} {x m : Str} {p pos apos : Pos} {e o : Expr} {es : List Expr} {ta : TE} {t : TA}
theorem pe_call0D (F : FnOk X.prog X.w X.K X.mg X.base CX k f fd ps sp) (hr : Room k X.A) (hg : Gl X x) (hm : X.mg x = some (.ref f)) (hk : PySem.W.keepIn X.K (.ref f) = true) (hb : Binds X.K fd ps ds) (hd : Vals dvs ds) (hx : ∀ σ, PassesAt CX X σ (E σ))
    (hdb : (x == ("__debug__" : Str)) = false := by decide) : PE X (.Call (.Name x p) [] [] pos) (tCallSD sp dvs E tNil) := by
  refine ⟨fun pins s σ H Q I h => ?_⟩
  refine wpAny_Call_Name_kw (ld_glob I hg hm ?_ hdb)
  exact PySem.W.callWith_K0 I.kIn hk (run_fnSD (us := []) F hr hb hd (hx σ) I .nil h)
def tMethD (C : Addr) (m : Str) (sp : Sp) (dvs : List V) (E : L2.St → XK) (ta : TE) (t : TA) : TE := fun σ H Q => ta σ H fun x H1 => ∃ a dx fs, x = .ref a ∧ H1 a = some (.ins C dx fs) ∧ fs.lookup m = none ∧
  t σ H1 fun vs H2 => sp (x :: (vs ++ dvs)) H2 Q (E σ)
theorem pe_methD {pl : Sem Bool} (he : PE X o ta) (c : Cls X.K C) (hm : Meth X.K C m f) (F : FnOk X.prog X.w X.K X.mg X.base CX k f fd ps sp) (hr : Room k X.A) (hb : Binds X.K fd ps ds) (hd : Vals dvs ds) (hx : ∀ σ, PassesAt CX X σ (E σ)) (ha : PA X (e :: es) t)
    (hst : starEach (e :: es) X.env = (false, eval e X.env) :: starEach es X.env := by rfl) (hpl : (backTo pos (starEach es X.env)).any (·.1) = false := by rfl)
    (ht : eval (.Call (.Attribute o m apos) (e :: es) [] pos) X.env = (do
      let ov ← eval o X.env
      standAt apos.atName
      let (f, first) ← holding [ov] (getMethod ov m pl)
      callWith pos f first (backTo pos (starEach (e :: es) X.env)) (backToKw pos (keywordEach [] X.env))) := by rfl) :
    PE X (.Call (.Attribute o m apos) (e :: es) [] pos) (tMethD C m sp dvs E ta t) := by
  refine ⟨fun pins s σ H Q I h => ?_⟩
  refine PySem.W.methodCall_KW (pl := pl) (thn (he.run pins s σ H _ I h) fun u s1 ⟨x, H1, I1, rx, a, dx, fs, ex, ea, l, q⟩ => ?_) ht
  subst ex
  obtain rfl : u = Value.ref a := rx
  refine getmeth_ok I1 ea c hm l ?_
  refine PySem.W.callWith_K (first := [.ref a]) (h₀ := X.base) I.ok.mod.kin hm.kp (thn (ha.run pos pins s1 σ H1 _ I1 q) fun us s2 ⟨vs, H2, I2, r, q2⟩ => ⟨I2.kIn, ?_⟩) hst hpl
  exact run_fnSD (us := .ref a :: us) (vs := .ref a :: vs) F hr hb hd (hx σ) I2 (.cons rfl r) q2
theorem pe_meth0D {pl : Sem Bool} (he : PE X o ta) (c : Cls X.K C) (hm : Meth X.K C m f) (F : FnOk X.prog X.w X.K X.mg X.base CX k f fd ps sp) (hr : Room k X.A) (hb : Binds X.K fd ps ds) (hd : Vals dvs ds) (hx : ∀ σ, PassesAt CX X σ (E σ))
    (ht : eval (.Call (.Attribute o m apos) [] [] pos) X.env = (do
      let ov ← eval o X.env
      standAt apos.atName
      let (f, first) ← holding [ov] (getMethod ov m pl)
      callWith pos f first (backTo pos (starEach [] X.env)) (backToKw pos (keywordEach [] X.env))) := by rfl) :
    PE X (.Call (.Attribute o m apos) [] [] pos) (tMethD C m sp dvs E ta tNil) := by
  refine ⟨fun pins s σ H Q I h => ?_⟩
  refine PySem.W.methodCall_KW (pl := pl) (thn (he.run pins s σ H _ I h) fun u s1 ⟨x, H1, I1, rx, a, dx, fs, ex, ea, l, q⟩ => ?_) ht
  subst ex
  obtain rfl : u = Value.ref a := rx
  refine getmeth_ok I1 ea c hm l ?_
  exact PySem.W.callWith_K0 (first := [.ref a]) I1.kIn hm.kp (run_fnSD (us := [.ref a]) (vs := [.ref a]) F hr hb hd (hx σ) I1 (.cons rfl .nil) q)
/-- C(e, .., k = v, ..) -/
def tMakeK (C : Addr) (n m : Nat) (sp : Sp) (gV : List V → List V → List V) (E : L2.St → XK) (t tk : TA) : TE := fun σ H Q => t σ H fun vs H1 => tk σ H1 fun zs H2 => vs.length = n ∧ zs.length = m ∧
  ∀ x dx, H2 x = none → H2 dx = none → dx ≠ x → sp (gV (.ref x :: vs) zs) (upd (upd H2 dx (.own x)) x (.ins C dx [])) (fun v H3 => v = .non ∧ Q (.ref x) H3) (E σ)
theorem run_makeK {kk n : Nat} {ks : List Str} {g : List Value → List Value → List Value} {gV : List V → List V → List V} {pins : List (Addr × Obj)} {σ : L2.St} {H : Hp} {s : Shared} {Q : VK} {us ws : List Value} {vs zs : List V} (M : Mk X.K C f) (F : FnOk X.prog X.w X.K X.mg X.base CX kk f fd ps sp) (hr : Room (kk + 1) X.A) (hb : KBn X.K fd ps (n + 1) ks g gV)
    (hx : PassesAt CX X σ (E σ)) (I : Inv X pins σ H s) (r : Vals vs us) (rz : Vals zs ws) (l1 : vs.length = n) (l2 : zs.length = ks.length)
    (h : ∀ x dx, H x = none → H dx = none → dx ≠ x → sp (gV (.ref x :: vs) zs) (upd (upd H dx (.own x)) x (.ins C dx [])) (fun v H2 => v = .non ∧ Q (.ref x) H2) (E σ)) :
    wpAny (model X.prog X.w) X.A (call (.ref C) us (ks.zip ws)) (EP X pins σ Q) X.xe s := by
  have hq := h (s.heap.objs.size + 1) s.heap.objs.size (I.hok.fresh (Nat.le_succ _)) (I.hok.fresh (Nat.le_refl _)) (Nat.ne_of_lt (Nat.lt_succ_self _))
  have I2 := Inv.made (C := C) I
  have r2 := hb.rel (show Vals (V.ref (s.heap.objs.size + 1) :: vs) (Value.ref (s.heap.objs.size + 1) :: us) from .cons rfl r) rz
  have e1 : (Value.ref (s.heap.objs.size + 1) :: us).length = n + 1 := by rw [List.length_cons, ← r.length, l1]
  have e2 : ws.length = ks.length := rz.length.symm.trans l2
  refine wpAny_call (make_map (f := f) I.kIn M.makes M.init (beq_iff_eq.mp M.fn) (codeAny_mono (F.run _ X.stack _ _ ⟨Value.ref (s.heap.objs.size + 1) :: us, ks.zip ws⟩ _ _ _ (E σ) (hr.make C us (ks.zip ws))
    (I2.env0.make C us (ks.zip ws)) (hb.to _ _ ws I2.kIn e1 e2) r2 hq) fun r s' hq' => ?_))
  cases r with
  | error e => exact hx pins _ _ e s' I2 hq'
  | ok fl =>
    cases fl with
    | ret u =>
      obtain ⟨v, H', I3, rv, ev, q3⟩ := I2.after hq'
      subst ev
      exact ⟨rv, ⟨V.ref (s.heap.objs.size + 1), H', I3, rfl, q3⟩⟩
    | next => exact hq'.elim
    | brk => exact hq'.elim
    | cont => exact hq'.elim
theorem pe_makeK {kk n : Nat} {ks : List Str} {g : List Value → List Value → List Value} {gV : List V → List V → List V} {kws : List Keyword} {t tk : TA} (M : Mk X.K C f) (F : FnOk X.prog X.w X.K X.mg X.base CX kk f fd ps sp) (hr : Room (kk + 1) X.A) (hg : Gl X x) (hm : X.mg x = some (.ref C)) (hb : KBn X.K fd ps (n + 1) ks g gV) (hx : ∀ σ, PassesAt CX X σ (E σ))
    (ha : PA X (e :: es) t) (hkw : PK X kws tk) (hall : (backToKw pos (keywordEach kws X.env)).all (·.1.isSome) = true := by rfl) (hks : (backToKw pos (keywordEach kws X.env)).filterMap (·.1) = ks := by rfl)
    (hdb : (x == ("__debug__" : Str)) = false := by decide) (he : starEach (e :: es) X.env = (false, eval e X.env) :: starEach es X.env := by rfl)
    (hpl : ((backTo pos (starEach (e :: es) X.env)).any (·.1) || (backToKw pos (keywordEach kws X.env)).any (·.1.isNone)) = false := by rfl) :
    PE X (.Call (.Name x p) (e :: es) kws pos) (tMakeK C n ks.length sp gV E t tk) := by
  refine ⟨fun pins s σ H Q I h => wpAny_Call_Name_kw (ld_glob I hg hm ?_ hdb)⟩
  refine PySem.W.callWith_KW (h₀ := X.base) I.ok.mod.kin M.kp hall (thn (ha.run pos pins s σ H _ I h) fun us s1 ⟨vs, H1, I1, r, q⟩ => ?_) hpl he
  refine thn (hkw.run pos pins s1 σ H1 _ I1 q) fun ws s2 ⟨zs, H2, I2, rz, l1, l2, q2⟩ => ⟨I2.kIn, ?_⟩
  rw [hks]
  exact run_makeK M F hr hb (hx σ) I2 r rz l1 l2 q2
def tMakeD (C : Addr) (sp : Sp) (dvs : List V) (E : L2.St → XK) (t : TA) : TE := fun σ H Q => t σ H fun vs H1 => ∀ x dx, H1 x = none → H1 dx = none → dx ≠ x →
  sp (.ref x :: (vs ++ dvs)) (upd (upd H1 dx (.own x)) x (.ins C dx [])) (fun v H2 => v = .non ∧ Q (.ref x) H2) (E σ)
theorem run_makeD {pins : List (Addr × Obj)} {σ : L2.St} {H : Hp} {s : Shared} {Q : VK} {us : List Value} {vs : List V} (M : Mk X.K C f) (F : FnOk X.prog X.w X.K X.mg X.base CX k f fd ps sp) (hr : Room (k + 1) X.A) (hb : Binds X.K fd ps ds) (hd : Vals dvs ds)
    (hx : PassesAt CX X σ (E σ)) (I : Inv X pins σ H s) (r : Vals vs us)
    (h : ∀ x dx, H x = none → H dx = none → dx ≠ x → sp (.ref x :: (vs ++ dvs)) (upd (upd H dx (.own x)) x (.ins C dx [])) (fun v H2 => v = .non ∧ Q (.ref x) H2) (E σ)) :
    wpAny (model X.prog X.w) X.A (call (.ref C) us) (EP X pins σ Q) X.xe s := by
  have hq := h (s.heap.objs.size + 1) s.heap.objs.size (I.hok.fresh (Nat.le_succ _)) (I.hok.fresh (Nat.le_refl _)) (Nat.ne_of_lt (Nat.lt_succ_self _))
  have I2 := Inv.made (C := C) I
  have r2 : Vals (V.ref (s.heap.objs.size + 1) :: (vs ++ dvs)) (Value.ref (s.heap.objs.size + 1) :: (us ++ ds)) := .cons rfl (r.append hd)
  have hl : (Value.ref (s.heap.objs.size + 1) :: us ++ ds).length = ps.length := by
    have e := r2.length
    rw [F.len _ _ _ _ hq] at e
    exact e.symm
  refine wpAny_call (make_map (f := f) I.kIn M.makes M.init (beq_iff_eq.mp M.fn) (codeAny_mono (F.run _ X.stack _ _ ⟨Value.ref (s.heap.objs.size + 1) :: us, []⟩ (Value.ref (s.heap.objs.size + 1) :: (us ++ ds)) _ _ (E σ) (hr.make C us [])
    (I2.env0.make C us []) (hb _ (Value.ref (s.heap.objs.size + 1) :: us) I2.kIn hl) r2 hq) fun r s' hq' => ?_))
  cases r with
  | error e => exact hx pins _ _ e s' I2 hq'
  | ok fl =>
    cases fl with
    | ret u =>
      obtain ⟨v, H', I3, rv, ev, q3⟩ := I2.after hq'
      subst ev
      exact ⟨rv, ⟨V.ref (s.heap.objs.size + 1), H', I3, rfl, q3⟩⟩
    | next => exact False.elim hq'
    | brk => exact False.elim hq'
    | cont => exact False.elim hq'
theorem pe_makeD (M : Mk X.K C f) (F : FnOk X.prog X.w X.K X.mg X.base CX k f fd ps sp) (hr : Room (k + 1) X.A) (hg : Gl X x) (hm : X.mg x = some (.ref C)) (hb : Binds X.K fd ps ds) (hd : Vals dvs ds) (hx : ∀ σ, PassesAt CX X σ (E σ))
    (ha : PA X (e :: es) t) (hdb : (x == ("__debug__" : Str)) = false := by decide) (he : starEach (e :: es) X.env = (false, eval e X.env) :: starEach es X.env := by rfl) (hpl : (backTo pos (starEach es X.env)).any (·.1) = false := by rfl) :
    PE X (.Call (.Name x p) (e :: es) [] pos) (tMakeD C sp dvs E t) := by
  refine ⟨fun pins s σ H Q I h => ?_⟩
  refine wpAny_Call_Name_kw (ld_glob I hg hm ?_ hdb)
  refine PySem.W.callWith_K (h₀ := X.base) I.ok.mod.kin M.kp (thn (ha.run pos pins s σ H _ I h) fun us s1 ⟨vs, H1, I1, r, q⟩ => ⟨I1.kIn, ?_⟩) he hpl
  exact run_makeD M F hr hb hd (hx σ) I1 r q
theorem pe_make0D (M : Mk X.K C f) (F : FnOk X.prog X.w X.K X.mg X.base CX k f fd ps sp) (hr : Room (k + 1) X.A) (hg : Gl X x) (hm : X.mg x = some (.ref C)) (hb : Binds X.K fd ps ds) (hd : Vals dvs ds) (hx : ∀ σ, PassesAt CX X σ (E σ))
    (hdb : (x == ("__debug__" : Str)) = false := by decide) : PE X (.Call (.Name x p) [] [] pos) (tMakeD C sp dvs E tNil) := by
  refine ⟨fun pins s σ H Q I h => ?_⟩
  refine wpAny_Call_Name_kw (ld_glob I hg hm ?_ hdb)
  exact PySem.W.callWith_K0 I.kIn M.kp (run_makeD (us := []) M F hr hb hd (hx σ) I .nil h)
end
/-! ### how a def ends -/
@[simp] def fin (n : Nat) : R W → R W
  | .ok (.d x) S => .ok (.d x) (S.take n)
  | .ok (.c i) S => if i < n then .ok (.c i) (S.take n) else .ok (.c i) S
  | .ok (.e c x) S => .ok (.e c x) (S.take n)
  | .exc c x S => .exc c x (S.take n)
  | .bad => .bad
@[simp] def ofRS : RS → R W
  | .nx _ S => .ok (.d .non) S
  | .rt w S => .ok w S
  | .exc c x _ S => .exc c x S
  | _ => .bad
def runDef (N ar : Nat) (body : DS) (ws : List W) (S : Sto) : R W := if ws.length = ar then fin S.length (ofRS (body (ws.map some ++ List.replicate (N - ws.length) none) S)) else .bad
theorem cut_le {I : Inf} {S S' : Sto} {M M' : List Addr} {H H' : Hp} (s : Sim I S M H) (l : Le S M H S' M' H') (s' : Sim I S' M' H') : Sim I (S'.take S.length) M H' ∧ Le S M H (S'.take S.length) M H' ∧ M'.take S.length = M := by
  obtain ⟨c1, c2⟩ := s'.cut (n := S.length)
  have e : M'.take S.length = M := by
    obtain ⟨t, rfl⟩ := l.pre
    rw [← s.len, List.take_left]
  rw [e] at c1 c2
  exact ⟨c1, ⟨List.prefix_refl _, l.ex.trans c2⟩, e⟩
theorem fin_end {I : Inf} {S : Sto} {M : List Addr} {H : Hp} {Q : VK} {E : XK} {r : R W} (s : Sim I S M H) (h : EndR I S M H (RepW I) Q E (fin S.length r)) : EndR I S M H (RepW I) Q E r := by
  cases r with
  | bad => exact h
  | exc c x S' =>
    intro cls dd H' M' l s' rx
    obtain ⟨a, b, e⟩ := cut_le s l s'
    refine h cls dd H' M b a (rx.mono ?_)
    have := (s'.cut (n := S.length)).2
    rw [e] at this
    exact this
  | ok w S' =>
    intro v H' M' l s' rw'
    obtain ⟨a, b, e⟩ := cut_le s l s'
    have ex := (s'.cut (n := S.length)).2
    rw [e] at ex
    cases w with
    | d x => exact h v H' M b a (Rep.mono ex rw')
    | e c x =>
      obtain ⟨q, cls, dd, z1, z2, z3⟩ := rw'
      exact h v H' M b a ⟨q, cls, dd, z1, z2, z3.mono ex⟩
    | c i =>
      dsimp only [fin] at h
      split at h
      · rename_i hi
        obtain ⟨q, eq, ev⟩ := rw'
        refine h v H' M b a ⟨q, ?_, ev⟩
        rw [← e, List.getElem?_take, if_pos hi]
        exact eq
      · exact h v H' M' l s' rw'
/-- the slots at the entry -/
theorem slots_start {I : Inf} {M : List Addr} {H : Hp} {N : List Str} {ws : List W} {vs : List V} (r : RepWs I M H ws vs) : Slots I M H (ws.map some ++ List.replicate (N.length - ws.length) none) (L2.start N vs) := by
  have hl := Paired.length r
  refine ⟨by unfold L2.start; simp [hl], fun i w e => ?_⟩
  unfold L2.start
  by_cases hi : i < ws.length
  · rw [List.getElem?_append_left (by simpa using hi), List.getElem?_map] at e
    rw [List.getElem?_append_left (by simpa [← hl] using hi), List.getElem?_map]
    cases q : ws[i]? with
    | none => rw [q] at e; cases e
    | some u =>
      rw [q] at e
      have : u = w := by simpa using e
      subst this
      obtain ⟨v, e1, e2⟩ := paired_get r q
      exact ⟨v, by rw [e1]; rfl, e2⟩
  · rw [List.getElem?_append_right (by simpa using hi)] at e
    rw [List.getElem?_replicate] at e
    split at e
    · simp at e
    · cases e
/-- THE RULE for a def: by its body's reading -/
theorem def_ok {P : Program} {w : World} {K : PySem.W.Frag} {mg : Str → Option Value} {base : Heap} {J : Jn} {xn qual : Str} {st : Stmt} {fa : Addr} {fd : FuncData} {N ps : List Str} {k f n : Nat} {F : FnTab} {body : DS} (hF : Fun K xn qual st fa fd) (S : FnScope N ps (defScope st)) (hn : ps.length = n)
    (he : ∀ ws S, F f ws S = runDef N.length n body ws S)
    (hb : ∀ (cdv : Value) (A : Around) (outer : List PySem.Env) (s : Shared) (H : Hp) (E : XK), Room k (A.deeper (envOfC qual (defScope st) s.heap.objs.size fa cdv)) →
      PSs (cxOf (L2.CX P w) P w K mg base N qual (defScope st) fa cdv A outer s H E) (defBody st) (rdS (J.inf K) (fun cls dd _ H' => E cls dd H') body)) : FnOk P w K mg base (L2.CX P w) (k + 1) fa fd ps (spOf (J.inf K) F f n) := by
  refine hF.okX S (fun vs H Q E h => by rw [hn]; exact h.1) (fun cdv A outer s H vs Q E hr h => ⟨_, hb cdv A outer s H E hr, ?_⟩)
  obtain ⟨hl, ws, St, M, sim, r, p⟩ := h
  rw [he] at p
  unfold runDef at p
  split at p
  · have p := fin_end sim p
    refine ⟨_, St, M, sim, slots_start r, ?_⟩
    generalize body (List.map some ws ++ List.replicate (N.length - ws.length) none) St = rs at p ⊢
    cases rs with
    | nx e S' => exact fun σ' H' M' l s' _ => p .non H' M' l s' .non
    | rt w S' => exact fun v H' M' l s' r' => p v H' M' l s' r'
    | exc c x e S' => exact fun cls dd σ' H' M' l s' _ r' => p cls dd H' M' l s' r'
    | bk e S' => exact p.elim
    | ct e S' => exact p.elim
    | bad => exact p.elim
  · exact p.elim
theorem def_okD {P : Program} {w : World} {K : PySem.W.Frag} {mg : Str → Option Value} {base : Heap} {J : Jn} {xn qual : Str} {params : Arguments} {bd : List Stmt} {sc : Scope} {dvs : List V} {kws : List (Str × V)} {fa : Addr} {fd : FuncData} {N ps : List Str} {k f n : Nat} {F : FnTab} {body : DS} (hF : FunD K xn qual params bd sc dvs kws fa fd) (S : FnScope N ps sc) (hn : ps.length = n)
    (he : ∀ ws S, F f ws S = runDef N.length n body ws S)
    (hb : ∀ (cdv : Value) (A : Around) (outer : List PySem.Env) (s : Shared) (H : Hp) (E : XK), Room k (A.deeper (envOfC qual sc s.heap.objs.size fa cdv)) →
      PSs (cxOf (L2.CX P w) P w K mg base N qual sc fa cdv A outer s H E) bd (rdS (J.inf K) (fun cls dd _ H' => E cls dd H') body)) : FnOk P w K mg base (L2.CX P w) (k + 1) fa fd ps (spOf (J.inf K) F f n) := by
  refine hF.ok S (fun vs H Q E h => by rw [hn]; exact h.1) (fun cdv A outer s H vs Q E hr h => ⟨_, hb cdv A outer s H E hr, ?_⟩)
  obtain ⟨hl, ws, St, M, sim, r, p⟩ := h
  rw [he] at p
  unfold runDef at p
  split at p
  · have p := fin_end sim p
    refine ⟨_, St, M, sim, slots_start r, ?_⟩
    generalize body (List.map some ws ++ List.replicate (N.length - ws.length) none) St = rs at p ⊢
    cases rs with
    | nx e S' => exact fun σ' H' M' l s' _ => p .non H' M' l s' .non
    | rt w S' => exact fun v H' M' l s' r' => p v H' M' l s' r'
    | exc c x e S' => exact fun cls dd σ' H' M' l s' _ r' => p cls dd H' M' l s' r'
    | bk e S' => exact p.elim
    | ct e S' => exact p.elim
    | bad => exact p.elim
  · exact p.elim
/-! ### calls -/
@[simp] def dCall (F : FnTab) (f n : Nat) (a : DA) : DE := fun e S => (a e S).bind fun ws S1 => if ws.length = n then F f ws S1 else .bad
/-- an instance of the class c -/
@[simp] def isC (c : Nat) : W → Sto → Bool
  | .d (.obj c' _), _ => c' == c
  | .c i, S => match S[i]? with
    | some (.ins c' _) => c' == c
    | _ => false
  | _, _ => false
@[simp] def dMeth (F : FnTab) (c f n : Nat) (o : DE) (a : DA) : DE := fun e S => (o e S).bind fun x S1 => if isC c x S1 = true then ((a e S1).bind fun ws S2 => if ws.length + 1 = n then F f (x :: ws) S2 else .bad) else .bad
/-- a new instance that never changes behind its __init__ (nf fields) -/
@[simp] def mkF (Fi : FnTab) (c f n nf : Nat) (ws : List W) (S : Sto) : R W := if ws.length + 1 = n then (match Fi f (.c S.length :: ws) (S ++ [.ins c []]) with
  | .ok (.d .non) S' => match S'[S.length]? with
    | some (.ins c' xs) => match plainL xs with
      | some ds => if c' = c ∧ ds.length = nf then .ok (.d (.obj c ds)) (S'.take S.length) else .bad
      | none => .bad
    | _ => .bad
  | .exc e x S' => .exc e x (S'.take S.length)
  | _ => .bad) else .bad
/-- a new instance that is a cell -/
@[simp] def mkC (Fi : FnTab) (c f n : Nat) (ws : List W) (S : Sto) : R W := if ws.length + 1 = n then (match Fi f (.c S.length :: ws) (S ++ [.ins c []]) with
  | .ok (.d .non) S' => .ok (.c S.length) S'
  | .exc e x S' => .exc e x (S'.take S.length)
  | _ => .bad) else .bad
@[simp] def dMk (g : List W → Sto → R W) (dfl : List D) (a : DA) : DE := fun e S => (a e S).bind fun ws S1 => g (ws ++ dfl.map W.d) S1
section
variable {J : Jn} {X : Cx} {w : WX} {F Fi : FnTab} {k : Nat} {a o e : Expr} {es : List Expr} {da d_o : DE} {dr : DA} {pos p apos : Pos} {x m : Str} {f n c nf : Nat}
theorem sx_call (t : Cok J X w F Fi k) (h : J.sg.nm f = some (x, n)) (ha : PA X (e :: es) (rdA (J.inf X.K) w dr)) (hg : Gl X x := by rfl)
    (hdb : (x == ("__debug__" : Str)) = false := by decide) (he : starEach (e :: es) X.env = (false, eval e X.env) :: starEach es X.env := by rfl) (hpl : (backTo pos (starEach es X.env)).any (·.1) = false := by rfl) :
    PE X (.Call (.Name x p) (e :: es) [] pos) (rdE (J.inf X.K) w (dCall F f n dr)) := by
  obtain ⟨fa, fd, ps, h1, h2, h3, h4⟩ := t.call f x n h
  refine PE_imp (pe_callSD (dvs := []) (E := WE w) h3 t.room hg h1 h2 h4 .nil (fun σ => passAt t.tk σ) ha hdb he hpl) fun σ H Q q => rd_args q fun ws vs e S M H s sl r p => ?_
  split at p
  · rename_i hl
    rw [List.append_nil]
    exact ⟨by rw [← Paired.length r]; exact hl, ws, S, M, s, r, p⟩
  · exact p.elim
theorem sx_call0 (t : Cok J X w F Fi k) (h : J.sg.nm f = some (x, n)) (hg : Gl X x := by rfl)
    (hdb : (x == ("__debug__" : Str)) = false := by decide) : PE X (.Call (.Name x p) [] [] pos) (rdE (J.inf X.K) w (dCall F f n dNil)) := by
  obtain ⟨fa, fd, ps, h1, h2, h3, h4⟩ := t.call f x n h
  refine PE_imp (pe_call0D (dvs := []) (E := WE w) h3 t.room hg h1 h2 h4 .nil (fun σ => passAt t.tk σ) hdb) fun σ H Q q => ?_
  obtain ⟨e, S, M, s, sl, p⟩ := q
  change EndR _ S M H _ Q _ (if ([] : List W).length = n then F f [] S else .bad) at p
  split at p
  · rename_i hl
    exact ⟨hl, [], S, M, s, .nil, p⟩
  · exact p.elim
theorem lookup_zip_none {ks : List Str} {vs : List V} {m : Str} (h : m ∉ ks) : (ks.zip vs).lookup m = none := by
  induction ks generalizing vs with
  | nil => rfl
  | cons k ks ih =>
    cases vs with
    | nil => rfl
    | cons v vs =>
      rw [List.zip_cons_cons, List.lookup_cons]
      have : (m == k) = false := by
        have : m ≠ k := fun q => h (by rw [q]; exact List.mem_cons_self)
        simpa using this
      rw [this]
      exact ih fun z => h (List.mem_cons_of_mem _ z)
/-- the receiver -/
theorem recv_at {I : Inf} {S : Sto} {M : List Addr} {H : Hp} {y : W} {v : V} {c : Nat} (s : Sim I S M H) (r : RepW I M (mask S M H) y v) (h : isC c y S = true) :
    ∃ a C dx vs, v = .ref a ∧ I.G c = some C ∧ H a = some (.ins C dx ((I.fl c).zip vs)) := by
  unfold isC at h
  split at h
  · have h := beq_iff_eq.mp h
    subst h
    cases r with
    | obj g h l q => exact ⟨_, _, _, _, rfl, g, mask_ex _ _ h⟩
  · split at h
    · have h := beq_iff_eq.mp h
      subst h
      obtain ⟨a, ea, rfl⟩ := r
      obtain ⟨C, dx, vs, g, h, l, q⟩ := s.cell _ _ a (by assumption) ea
      exact ⟨a, C, dx, vs, rfl, g, h⟩
    · cases h
  · cases h
theorem sx_meth (t : Cok J X w F Fi k) (h : J.sg.mt f = some (c, m, n)) (hm : m ∉ J.sg.fl c) {pl : Sem Bool} (ho : PE X o (rdE (J.inf X.K) w d_o)) (ha : PA X (e :: es) (rdA (J.inf X.K) w dr))
    (hst : starEach (e :: es) X.env = (false, eval e X.env) :: starEach es X.env := by rfl) (hpl : (backTo pos (starEach es X.env)).any (·.1) = false := by rfl)
    (ht : eval (.Call (.Attribute o m apos) (e :: es) [] pos) X.env = (do
      let ov ← eval o X.env
      standAt apos.atName
      let (f, first) ← holding [ov] (getMethod ov m pl)
      callWith pos f first (backTo pos (starEach (e :: es) X.env)) (backToKw pos (keywordEach [] X.env))) := by rfl) :
    PE X (.Call (.Attribute o m apos) (e :: es) [] pos) (rdE (J.inf X.K) w (dMeth F c f n d_o dr)) := by
  obtain ⟨C, fa, fd, ps, h1, h2, h3, h4⟩ := t.meth f c m n h
  refine PE_imp (pe_methD (dvs := []) (E := WE w) ho (t.cls c C h1) h2 h3 t.room h4 .nil (fun σ => passAt t.tk σ) ha hst hpl ht) fun σ H Q q => rd_one (f := fun e x S1 => if isC c x S1 = true then ((dr e S1).bind fun ws S2 => if ws.length + 1 = n then F f (x :: ws) S2 else .bad) else .bad) q fun y v e S M H s sl r p => ?_
  split at p
  · rename_i hy
    obtain ⟨b, C', dx, vs, rfl, g, hb⟩ := recv_at s r hy
    have : C' = C := by
      have g' : J.G c = some C' := g
      rw [h1] at g'
      exact (Option.some.inj g').symm
    subst this
    refine ⟨b, dx, _, rfl, hb, lookup_zip_none hm, ?_⟩
    refine ⟨e, S, M, s, sl, (EndR.bind (rel1 := RepWs (J.inf X.K)) p).imp fun us H1 ⟨ws, S1, M1, l1, s1, r1, p1⟩ => ?_⟩
    split at p1
    · rename_i hl
      rw [List.append_nil]
      exact ⟨by rw [← hl, Paired.length r1]; rfl, y :: ws, S1, M1, s1, .cons (r.mono l1) r1, p1⟩
    · exact p1.elim
  · exact p.elim
theorem sx_meth0 (t : Cok J X w F Fi k) (h : J.sg.mt f = some (c, m, n)) (hm : m ∉ J.sg.fl c) {pl : Sem Bool} (ho : PE X o (rdE (J.inf X.K) w d_o))
    (ht : eval (.Call (.Attribute o m apos) [] [] pos) X.env = (do
      let ov ← eval o X.env
      standAt apos.atName
      let (f, first) ← holding [ov] (getMethod ov m pl)
      callWith pos f first (backTo pos (starEach [] X.env)) (backToKw pos (keywordEach [] X.env))) := by rfl) :
    PE X (.Call (.Attribute o m apos) [] [] pos) (rdE (J.inf X.K) w (dMeth F c f n d_o dNil)) := by
  obtain ⟨C, fa, fd, ps, h1, h2, h3, h4⟩ := t.meth f c m n h
  refine PE_imp (pe_meth0D (dvs := []) (E := WE w) ho (t.cls c C h1) h2 h3 t.room h4 .nil (fun σ => passAt t.tk σ) ht) fun σ H Q q => rd_one (f := fun e x S1 => if isC c x S1 = true then ((dNil e S1).bind fun ws S2 => if ws.length + 1 = n then F f (x :: ws) S2 else .bad) else .bad) q fun y v e S M H s sl r p => ?_
  split at p
  · rename_i hy
    obtain ⟨b, C', dx, vs, rfl, g, hb⟩ := recv_at s r hy
    have : C' = C := by
      have g' : J.G c = some C' := g
      rw [h1] at g'
      exact (Option.some.inj g').symm
    subst this
    refine ⟨b, dx, _, rfl, hb, lookup_zip_none hm, ?_⟩
    have p1 : EndR (J.inf X.K) S M H (RepW (J.inf X.K)) Q (fun cls dd H' => w cls dd σ H') (if ([] : List W).length + 1 = n then F f [y] S else .bad) := p
    split at p1
    · rename_i hl
      exact ⟨hl, [y], S, M, s, .cons r .nil, p1⟩
    · exact p1.elim
  · exact p.elim
/-- an attribute: of an instance whose class has it at place i -/
@[simp] def attr (c i : Nat) : W → Sto → R W
  | .d (.obj c' xs), S => if c' = c then (match xs[i]? with
    | some x => .ok (.d x) S
    | none => .bad) else .bad
  | .c j, S => match S[j]? with
    | some (.ins c' ws) => if c' = c then (match ws[i]? with
      | some u => .ok u S
      | none => .bad) else .bad
    | _ => .bad
  | _, _ => .bad
@[simp] def dAttr (c i : Nat) (o : DE) : DE := fun e S => (o e S).bind (attr c i)
theorem lookup_zip {ks : List Str} {i : Nat} {m : Str} {v : V} (hn : ks.Nodup) : ∀ {vs : List V}, ks[i]? = some m → vs[i]? = some v → (ks.zip vs).lookup m = some v := by
  induction ks generalizing i with
  | nil => intro vs e; simp at e
  | cons k ks ih =>
    intro vs e1 e2
    cases vs with
    | nil => simp at e2
    | cons u vs =>
      rw [List.zip_cons_cons, List.lookup_cons]
      cases i with
      | zero =>
        simp at e1 e2
        subst e1 e2
        simp
      | succ i =>
        simp at e1 e2
        have hk : (m == k) = false := by
          have : m ≠ k := fun q => (List.nodup_cons.mp hn).1 (by rw [← q]; exact List.mem_of_getElem? e1)
          simpa using this
        rw [hk]
        exact ih (List.nodup_cons.mp hn).2 e1 e2
theorem attr_at {I : Inf} {S : Sto} {M : List Addr} {H : Hp} {y : W} {v : V} {c i : Nat} {Q : VK} {E : XK} {m : Str} (hm : (I.fl c)[i]? = some m) (hn : (I.fl c).Nodup) (s : Sim I S M H) (r : RepW I M (mask S M H) y v) (p : EndR I S M H (RepW I) Q E (attr c i y S)) :
    ∃ a C dx fs u, v = .ref a ∧ I.G c = some C ∧ H a = some (.ins C dx fs) ∧ fs.lookup m = some u ∧ Q u H := by
  unfold attr at p
  split at p
  · split at p
    · rename_i h
      subst h
      split at p
      · rename_i x hx
        cases r with
        | obj g h l q =>
          obtain ⟨u, e1, e2⟩ := q.get hx
          exact ⟨_, _, _, _, u, rfl, g, mask_ex _ _ h, lookup_zip hn hm e1, p.here s e2⟩
      · exact p.elim
    · exact p.elim
  · split at p
    · split at p
      · rename_i h
        subst h
        split at p
        · rename_i x hx
          obtain ⟨a, ea, rfl⟩ := r
          obtain ⟨C, dx, vs, g, h, l, q⟩ := s.cell _ _ a (by assumption) ea
          obtain ⟨u, e1, e2⟩ := paired_get q hx
          exact ⟨_, _, _, _, u, rfl, g, h, lookup_zip hn hm e1, p.here s e2⟩
        · exact p.elim
      · exact p.elim
    · exact p.elim
  · exact p.elim
theorem sx_attr {i : Nat} (t : Cok J X w F Fi k) (hm : (J.sg.fl c)[i]? = some m) (hn : (J.sg.fl c).Nodup) (ho : PE X o (rdE (J.inf X.K) w d_o)) (hb : attributeBase o m X.env (eval o X.env) = eval o X.env := by rfl) :
    PE X (.Attribute o m pos) (rdE (J.inf X.K) w (dAttr c i d_o)) :=
  PE_imp (pe_fld ho hb) fun σ H Q q => rd_one (f := fun _ x S1 => attr c i x S1) q fun y v e S M H s sl r p => by
    obtain ⟨a, C, dx, fs, u, e1, g, e2, e3, e4⟩ := attr_at hm hn s r p
    exact ⟨a, C, dx, fs, u, e1, e2, t.cls c C g, t.nat c C m g (List.mem_of_getElem? hm), e3, e4⟩
/-- a new instance: the heap, the store -/
theorem made_sim {I : Inf} {S : Sto} {M : List Addr} {H : Hp} {x dx C : Addr} {c : Nat} (s : Sim I S M H) (g : I.G c = some C) (nx : H x = none) (nd : H dx = none) (ne : dx ≠ x) :
    Sim I (S ++ [.ins c []]) (M ++ [x]) (upd (upd H dx (.own x)) x (.ins C dx [])) ∧ Le S M H (S ++ [.ins c []]) (M ++ [x]) (upd (upd H dx (.own x)) x (.ins C dx [])) := by
  obtain ⟨s1, l1⟩ := s.new (o := .own x) nd
  obtain ⟨s2, l2⟩ := s1.newC (p := x) (o := .ins C dx []) (c := .ins c []) (by rw [upd_ne (Ne.symm ne)]; exact nx) (fun w m => by cases m) ⟨C, dx, [], g, by simp, Nat.zero_le _, .nil⟩ (by intro z; cases z)
  exact ⟨s2, l1.trans l2⟩
theorem mkF_end {I : Inf} {S : Sto} {M : List Addr} {H : Hp} {Q : VK} {E : XK} {x dx C : Addr} {c f n nf : Nat} {ws : List W} {vs : List V} (hnf : (I.fl c).length = nf) (s : Sim I S M H) (r : RepWs I M (mask S M H) ws vs) (g : I.G c = some C) (p : EndR I S M H (RepW I) Q E (mkF Fi c f n nf ws S))
    (nx : H x = none) (nd : H dx = none) (ne : dx ≠ x) : spOf I Fi f n (.ref x :: vs) (upd (upd H dx (.own x)) x (.ins C dx [])) (fun v H2 => v = .non ∧ Q (.ref x) H2) E := by
  obtain ⟨s2, l2⟩ := made_sim s g nx nd ne
  unfold mkF at p
  split at p
  · rename_i hl
    refine ⟨by rw [← hl, Paired.length r]; rfl, .c S.length :: ws, _, _, s2, .cons ⟨x, ?_, rfl⟩ (RepWs.mono l2 r), ?_⟩
    · rw [List.getElem?_append_right (by rw [s.len]; exact Nat.le_refl _), s.len, Nat.sub_self]
      rfl
    have hM : M.length = S.length := s.len
    generalize Fi f (.c S.length :: ws) (S ++ [.ins c []]) = rr at p ⊢
    cases rr with
    | bad => exact p
    | exc e d S' =>
      intro cls dd H' M' l' s' rx
      obtain ⟨a, b, e'⟩ := cut_le s (l2.trans l') s'
      refine p cls dd H' M b a (rx.mono ?_)
      have := (s'.cut (n := S.length)).2
      rw [e'] at this
      exact this
    | ok w S' =>
      cases w with
      | c i => exact p.elim
      | e _ _ => exact p.elim
      | d dd =>
        cases dd <;> try exact p.elim
        intro v H' M' l' s' rv
        cases rv
        dsimp only at p
        split at p
        · rename_i c' xs hc
          split at p
          · rename_i ds hds
            split at p
            · rename_i hh
              obtain ⟨rfl, hlen⟩ := hh
              obtain ⟨a, b, e'⟩ := cut_le s (l2.trans l') s'
              refine ⟨rfl, p (.ref x) H' M b a ?_⟩
              have hx : M'[S.length]? = some x := by
                refine pre_get l'.pre ?_
                rw [List.getElem?_append_right (by rw [s.len]; exact Nat.le_refl _), s.len, Nat.sub_self]
                rfl
              obtain ⟨C', dx', vs', g', ho, hle, q⟩ := s'.cell _ _ x hc hx
              have rr := plainL_rep q hds
              have exm := (s'.cut (n := S.length)).2
              rw [e'] at exm
              refine .obj g' (mask_some.mpr ⟨fun ⟨j, k, z1, _, _⟩ => s.fresh nx (List.mem_of_getElem? z1), ho⟩) ?_ (rr.mono exm)
              rw [← rr.len, hlen, hnf]
            · exact p.elim
          · exact p.elim
        · exact p.elim
  · exact p.elim
theorem mkC_end {I : Inf} {S : Sto} {M : List Addr} {H : Hp} {Q : VK} {E : XK} {x dx C : Addr} {c f n : Nat} {ws : List W} {vs : List V} (s : Sim I S M H) (r : RepWs I M (mask S M H) ws vs) (g : I.G c = some C) (p : EndR I S M H (RepW I) Q E (mkC Fi c f n ws S))
    (nx : H x = none) (nd : H dx = none) (ne : dx ≠ x) : spOf I Fi f n (.ref x :: vs) (upd (upd H dx (.own x)) x (.ins C dx [])) (fun v H2 => v = .non ∧ Q (.ref x) H2) E := by
  obtain ⟨s2, l2⟩ := made_sim s g nx nd ne
  have hx0 : (M ++ [x])[S.length]? = some x := by
    rw [List.getElem?_append_right (by rw [s.len]; exact Nat.le_refl _), s.len, Nat.sub_self]
    rfl
  unfold mkC at p
  split at p
  · rename_i hl
    refine ⟨by rw [← hl, Paired.length r]; rfl, .c S.length :: ws, _, _, s2, .cons ⟨x, hx0, rfl⟩ (RepWs.mono l2 r), ?_⟩
    generalize Fi f (.c S.length :: ws) (S ++ [.ins c []]) = rr at p ⊢
    cases rr with
    | bad => exact p
    | exc e d S' =>
      intro cls dd H' M' l' s' rx
      obtain ⟨a, b, e'⟩ := cut_le s (l2.trans l') s'
      refine p cls dd H' M b a (rx.mono ?_)
      have := (s'.cut (n := S.length)).2
      rw [e'] at this
      exact this
    | ok w S' =>
      cases w with
      | c i => exact p.elim
      | e _ _ => exact p.elim
      | d dd =>
        cases dd <;> try exact p.elim
        intro v H' M' l' s' rv
        cases rv
        exact ⟨rfl, p (.ref x) H' M' (l2.trans l') s' ⟨x, pre_get l'.pre hx0, rfl⟩⟩
  · exact p.elim
theorem RepWs.app {I : Inf} {M : List Addr} {H : Hp} : ∀ {a b : List W} {u v : List V}, RepWs I M H a u → RepWs I M H b v → RepWs I M H (a ++ b) (u ++ v)
  | _, _, _, _, .nil, s => s
  | _, _, _, _, .cons r t, s => .cons r (RepWs.app t s)
theorem reps_scal {I : Inf} {H : Hp} {M : List Addr} : ∀ {ds : List D} {vs : List V}, (∀ H, Reps I H ds vs) → RepWs I M H (ds.map W.d) vs := fun h => reps_map (h _)
theorem sx_mkF {dfl : List D} {dvs : List V} {dfs : List (List V)} (t : Cok J X w F Fi k) (h : J.sg.ini c = some (x, f, n, dfs)) (hd : dvs ∈ dfs) (hr : ∀ H, Reps (J.inf X.K) H dfl dvs) (hnf : (J.sg.fl c).length = nf) (ha : PA X (e :: es) (rdA (J.inf X.K) w dr)) (hg : Gl X x := by rfl)
    (hdb : (x == ("__debug__" : Str)) = false := by decide) (he : starEach (e :: es) X.env = (false, eval e X.env) :: starEach es X.env := by rfl) (hpl : (backTo pos (starEach es X.env)).any (·.1) = false := by rfl) :
    PE X (.Call (.Name x p) (e :: es) [] pos) (rdE (J.inf X.K) w (dMk (mkF Fi c f n nf) dfl dr)) := by
  obtain ⟨C, fa, fd, ps, h1, h2, h3, h4, h5⟩ := t.make c x f n dfs h
  obtain ⟨ds, h6, h7⟩ := h5 dvs hd
  exact PE_imp (pe_makeD (dvs := dvs) (E := WE w) h3 h4 t.room hg h2 h7 h6 (fun σ => passAt t.tk σ) ha hdb he hpl) fun σ H Q q => rd_args (f := fun ws S1 => mkF Fi c f n nf (ws ++ dfl.map W.d) S1) q fun ws vs e S M H s sl r p y dy ny nd ne =>
    mkF_end hnf s (RepWs.app r (reps_scal hr)) h1 p ny nd ne
theorem sx_mkF0 {dfl : List D} {dvs : List V} {dfs : List (List V)} (t : Cok J X w F Fi k) (h : J.sg.ini c = some (x, f, n, dfs)) (hd : dvs ∈ dfs) (hr : ∀ H, Reps (J.inf X.K) H dfl dvs) (hnf : (J.sg.fl c).length = nf) (hg : Gl X x := by rfl)
    (hdb : (x == ("__debug__" : Str)) = false := by decide) : PE X (.Call (.Name x p) [] [] pos) (rdE (J.inf X.K) w (dMk (mkF Fi c f n nf) dfl dNil)) := by
  obtain ⟨C, fa, fd, ps, h1, h2, h3, h4, h5⟩ := t.make c x f n dfs h
  obtain ⟨ds, h6, h7⟩ := h5 dvs hd
  refine PE_imp (pe_make0D (dvs := dvs) (E := WE w) h3 h4 t.room hg h2 h7 h6 (fun σ => passAt t.tk σ) hdb) fun σ H Q q => ?_
  obtain ⟨e, S, M, s, sl, p⟩ := q
  exact fun y dy ny nd ne => mkF_end hnf s (RepWs.app .nil (reps_scal hr)) h1 p ny nd ne
theorem sx_mkC {dfl : List D} {dvs : List V} {dfs : List (List V)} (t : Cok J X w F Fi k) (h : J.sg.ini c = some (x, f, n, dfs)) (hd : dvs ∈ dfs) (hr : ∀ H, Reps (J.inf X.K) H dfl dvs) (ha : PA X (e :: es) (rdA (J.inf X.K) w dr)) (hg : Gl X x := by rfl)
    (hdb : (x == ("__debug__" : Str)) = false := by decide) (he : starEach (e :: es) X.env = (false, eval e X.env) :: starEach es X.env := by rfl) (hpl : (backTo pos (starEach es X.env)).any (·.1) = false := by rfl) :
    PE X (.Call (.Name x p) (e :: es) [] pos) (rdE (J.inf X.K) w (dMk (mkC Fi c f n) dfl dr)) := by
  obtain ⟨C, fa, fd, ps, h1, h2, h3, h4, h5⟩ := t.make c x f n dfs h
  obtain ⟨ds, h6, h7⟩ := h5 dvs hd
  exact PE_imp (pe_makeD (dvs := dvs) (E := WE w) h3 h4 t.room hg h2 h7 h6 (fun σ => passAt t.tk σ) ha hdb he hpl) fun σ H Q q => rd_args (f := fun ws S1 => mkC Fi c f n (ws ++ dfl.map W.d) S1) q fun ws vs e S M H s sl r p y dy ny nd ne =>
    mkC_end s (RepWs.app r (reps_scal hr)) h1 p ny nd ne
theorem sx_mkC0 {dfl : List D} {dvs : List V} {dfs : List (List V)} (t : Cok J X w F Fi k) (h : J.sg.ini c = some (x, f, n, dfs)) (hd : dvs ∈ dfs) (hr : ∀ H, Reps (J.inf X.K) H dfl dvs) (hg : Gl X x := by rfl)
    (hdb : (x == ("__debug__" : Str)) = false := by decide) : PE X (.Call (.Name x p) [] [] pos) (rdE (J.inf X.K) w (dMk (mkC Fi c f n) dfl dNil)) := by
  obtain ⟨C, fa, fd, ps, h1, h2, h3, h4, h5⟩ := t.make c x f n dfs h
  obtain ⟨ds, h6, h7⟩ := h5 dvs hd
  refine PE_imp (pe_make0D (dvs := dvs) (E := WE w) h3 h4 t.room hg h2 h7 h6 (fun σ => passAt t.tk σ) hdb) fun σ H Q q => ?_
  obtain ⟨e, S, M, s, sl, p⟩ := q
  exact fun y dy ny nd ne => mkC_end s (RepWs.app .nil (reps_scal hr)) h1 p ny nd ne
end
end Py

/-! Py6: tests, built-in functions, slices. -/
namespace Py
open PySem PySem.Spec PyProof.Rows L2
/-! ### tests -/
@[simp] def tru : W → Sto → R Bool
  | .d .non, S => .ok false S
  | .d (.bl b), S => .ok b S
  | .d (.int i), S => .ok (i != 0) S
  | .d (.str x), S => if x.length ≤ sizeLine then .ok ((x.length : Int) != 0) S else .bad
  | .d (.tup xs), S => .ok (!xs.isEmpty) S
  | .d (.lst xs), S => .ok (!xs.isEmpty) S
  | .d (.lsx xs), S => .ok (!xs.isEmpty) S
  | .c i, S => match S[i]? with
    | some (.lst ws) => .ok (!ws.isEmpty) S
    | _ => .bad
  | _, _ => .bad
/-- .. where the instances of the class c have their own __bool__ -/
@[simp] def truO (F : FnTab) (c f : Nat) : W → Sto → R Bool
  | .d (.obj c' xs), S => if c' = c then (match F f [.d (.obj c' xs)] S with
    | .ok (.d (.bl b)) S' => .ok b S'
    | _ => .bad) else .bad
  | x, S => tru x S
@[simp] def dTr (g : W → Sto → R Bool) (a : DE) : DT := fun e S => (a e S).bind g
@[simp] def dTb (a : DE) : DT := fun e S => (a e S).bind fun x S1 => match x with
  | .d (.bl b) => .ok b S1
  | _ => .bad
@[simp] def dAnd (a b : DT) : DT := fun e S => (a e S).bind fun c S1 => if c = true then b e S1 else .ok false S1
@[simp] def dOr (a b : DT) : DT := fun e S => (a e S).bind fun c S1 => if c = true then .ok true S1 else b e S1
@[simp] def dNot (a : DT) : DT := fun e S => (a e S).bind fun c S1 => .ok (!c) S1
/-- as values: bools alone -/
@[simp] def dAndV (a b : DE) : DE := fun e S => (a e S).bind fun x S1 => match x with
  | .d (.bl c) => if c = true then b e S1 else .ok (.d (.bl false)) S1
  | _ => .bad
@[simp] def dOrV (a b : DE) : DE := fun e S => (a e S).bind fun x S1 => match x with
  | .d (.bl c) => if c = true then .ok (.d (.bl true)) S1 else b e S1
  | _ => .bad
@[simp] def dNotV (a : DE) : DE := fun e S => (a e S).bind fun x S1 => match x with
  | .d (.bl c) => .ok (.d (.bl (!c))) S1
  | _ => .bad
@[simp] def dIf (t : DT) (a b : DE) : DE := fun e S => (t e S).bind fun c S1 => if c = true then a e S1 else b e S1
@[simp] def dChain (f g : W → W → Sto → R W) (a b c : DE) : DE := fun e S => (a e S).bind fun x S1 => (b e S1).bind fun y S2 => (f x y S2).ne.bind fun z S3 => match z with
  | .d (.bl k) => if k = true then ((c e S3).bind fun u S4 => (g y u S4).ne) else .ok (.d (.bl false)) S3
  | _ => .bad
section
variable {J : Jn} {X : Cx} {I : Inf} {w : WX} {F Fi : FnTab} {k : Nat} {a b c : Expr} {rest : List Expr} {da db dc : DE} {ta tb : DT} {pos : Pos}
def rdTru (I : Inf) (g : W → Sto → R Bool) : V → Hp → (Bool → Hp → Prop) → Prop := fun v H Q => ∃ (x : W) (S : Sto) (M : List Addr), Sim I S M H ∧ RepW I M (mask S M H) x v ∧ EndR I S M H (fun _ _ a b => a = b) Q E0 (g x S)
theorem tru_plain {pins : List (Addr × Obj)} {s : Shared} {σ : L2.St} {H : Hp} {v : V} {u : Value} {Q : Bool → Hp → Prop} (In : Inv X pins σ H s) (rv : RelV v u) {x : W} {S : Sto} {M : List Addr} (sim : Sim ⟨X.K, I.G, I.fl, I.X, I.ex⟩ S M H) (rx : RepW ⟨X.K, I.G, I.fl, I.X, I.ex⟩ M (mask S M H) x v)
    (p : EndR ⟨X.K, I.G, I.fl, I.X, I.ex⟩ S M H (fun _ _ a b => a = b) Q E0 (tru x S)) : wpAny (model X.prog X.w) X.A (truthy u) (TP X pins σ Q) X.xe s := by
  have emp : ∀ {α β : Type} {xs : List α} {ys : List β}, xs.length = ys.length → (!xs.isEmpty) = (!ys.isEmpty) := fun {α β xs ys} h => by
    cases xs <;> cases ys <;> simp at h <;> rfl
  unfold tru at p
  split at p
  · cases rx
    exact tru_ok pins s σ H _ u Q In rv ⟨_, rfl, p.here sim rfl⟩
  · cases rx
    exact tru_ok pins s σ H _ u Q In rv ⟨_, rfl, p.here sim rfl⟩
  · cases rx
    exact tru_ok pins s σ H _ u Q In rv ⟨_, rfl, p.here sim rfl⟩
  · split at p
    · cases rx
      exact tru_ok pins s σ H _ u Q In rv ⟨_, ⟨by assumption, rfl⟩, p.here sim rfl⟩
    · exact p.elim
  · cases rx with
    | tup h r => exact tru_ok pins s σ H _ u Q In rv ⟨_, .inr (.inl ⟨_, ex_t mask_ex h, rfl⟩), by rw [← emp r.len]; exact p.here sim rfl⟩
  · cases rx with
    | lst h r => exact tru_ok pins s σ H _ u Q In rv ⟨_, .inl ⟨_, .inl (.inl (mask_ex _ _ h)), rfl⟩, by rw [← emp r.len]; exact p.here sim rfl⟩
  · cases rx with
    | lsx h r => exact tru_ok pins s σ H _ u Q In rv ⟨_, .inl ⟨_, ex_l mask_ex h, rfl⟩, by rw [← emp r.len]; exact p.here sim rfl⟩
  · split at p
    · obtain ⟨a, ea, rfl⟩ := rx
      obtain ⟨vs, ho, q⟩ := sim.cell _ _ a (by assumption) ea
      exact tru_ok pins s σ H _ u Q In rv ⟨_, .inl ⟨_, .inl (.inl ho), rfl⟩, by rw [← emp (Paired.length q)]; exact p.here sim rfl⟩
    · exact p.elim
  · exact p.elim
theorem tr_plain : TruR X (rdTru ⟨X.K, I.G, I.fl, I.X, I.ex⟩ tru) := fun pins s σ H v u Q In rv ⟨x, S, M, sim, rx, p⟩ => tru_plain In rv sim rx p
theorem pt_tru {r : V → Hp → (Bool → Hp → Prop) → Prop} {t : TE} (hr : TruR X r) (ha : PE X a t) (he : ∀ whole, isTrue a X.env whole = (do let v ← whole; standAt a.pos; holding [v] (truthy v))) :
    PT X a (fun σ H Q => t σ H fun x H' => r x H' Q) := by
  refine ⟨fun pins s σ H Q I h => ?_⟩
  exact isTrue_plain (thn (ha.run pins s σ H _ I h) fun v s1 ⟨x, H1, I1, r1, q1⟩ => hr pins s1 σ H1 x v Q I1 r1 q1) (he _)
theorem noE {α β : Type} {S : Sto} {M : List Addr} {H : Hp} {rel : List Addr → Hp → α → β → Prop} {Q : β → Hp → Prop} {E E' : XK} {r : R α} (hr : r = r.ne) (h : EndR I S M H rel Q E r) : EndR I S M H rel Q E' r := by
  rw [hr] at h ⊢
  cases r with
  | ok a S' => exact h
  | exc c x S' => exact h.elim
  | bad => exact h
theorem tru_ne (x : W) (S : Sto) : tru x S = (tru x S).ne := by
  unfold tru
  repeat' split
  all_goals rfl
theorem truO_ne (F : FnTab) (c f : Nat) (x : W) (S : Sto) : truO F c f x S = (truO F c f x S).ne := by
  unfold truO
  split
  · split
    · split <;> rfl
    · rfl
  · exact tru_ne x S
theorem st_tr {g : W → Sto → R Bool} (hg : ∀ x S, g x S = (g x S).ne) (hr : TruR X (rdTru I g)) (ha : PE X a (rdE I w da)) (he : ∀ whole, isTrue a X.env whole = (do let v ← whole; standAt a.pos; holding [v] (truthy v)) := by intro _; rfl) : PT X a (rdT I w (dTr g da)) :=
  PT_imp (pt_tru hr ha he) fun σ H Q q => rd_one (f := fun _ x S1 => g x S1) q fun x v e S M H s sl r p => ⟨x, S, M, s, r, noE (hg x S) p⟩
/-- an expression that gives a bool, by pt_val or a comparison -/
theorem st_val (ha : PE X a (rdE I w da)) (he : ∀ whole, isTrue a X.env whole = (do let v ← whole; standAt a.pos; holding [v] (truthy v)) := by intro _; rfl) : PT X a (rdT I w (dTb da)) :=
  PT_imp (pt_val ha he) fun σ H Q q => rd_one (f := fun _ x S1 => match x with
  | .d (.bl b) => .ok b S1
  | _ => .bad) q fun x v e S M H s sl r p => by
    split at p
    · cases r
      exact ⟨_, rfl, p.here s rfl⟩
    · exact p.elim
theorem st_cmp {op : CmpOp} {f : W → W → Sto → R W} (ho : OpR X (compareOp op) (rdOp I f)) (ha : PE X a (rdE I w da)) (hb : PE X b (rdE I w db)) (hm : behindInMarks op b = false := by first | exact nomark _ | rfl) : PT X (.Compare a [op] [b] pos) (rdT I w (dTb (dOp f da db))) :=
  PT_imp (pt_cmpR ho ha hb hm) fun σ H Q q => by
    refine rd_two (rel := fun _ _ a b => a = b) (f := fun x y S2 => (f x y S2).ne.bind fun z S3 => match z with
      | .d (.bl b) => .ok b S3
      | _ => .bad) (Q := Q) ?_ fun x y v u S M H s rx ry p => ?_
    · obtain ⟨e, S, M, s, sl, p⟩ := q
      refine ⟨e, S, M, s, sl, ?_⟩
      dsimp only [dTb, dOp] at p
      generalize da e S = r1 at p ⊢
      cases r1 with
      | ok a1 S1 =>
        dsimp only [R.bind] at p ⊢
        generalize db e S1 = r2 at p ⊢
        cases r2 with
        | ok a2 S2 => exact p
        | exc c x S' => exact p
        | bad => exact p
      | exc c x S' => exact p
      | bad => exact p
    · refine ⟨x, y, S, M, s, rx, ry, ?_⟩
      have p := (EndR.bind (rel1 := RepW I) p).ne (E' := E0)
      refine p.imp fun z H' ⟨d, S1, M1, l1, s1, r1, p1⟩ => ?_
      split at p1
      · cases r1
        exact ⟨_, rfl, p1.here s1 rfl⟩
      · exact p1.elim
theorem st_and1 (ha : PT X a (rdT I w ta)) : PW X (.BoolOp .And [a] pos) (rdT I w ta) := pw_and1 ha
theorem st_or1 (ha : PT X a (rdT I w ta)) : PW X (.BoolOp .Or [a] pos) (rdT I w ta) := pw_or1 ha
theorem rdT_one {α β : Type} {rel : List Addr → Hp → α → β → Prop} {σ : L2.St} {H : Hp} {Q : β → Hp → Prop} {f : Env → Bool → Sto → R α} {P : Bool → Hp → Prop}
    (h : ∃ (env : Env) (S : Sto) (M : List Addr), Sim I S M H ∧ Slots I M (mask S M H) env σ ∧ EndR I S M H rel Q (fun cls dd H' => w cls dd σ H') ((ta env S).bind fun x S1 => f env x S1))
    (k : ∀ (x : Bool) (env : Env) (S : Sto) (M : List Addr) (H : Hp), Sim I S M H → Slots I M (mask S M H) env σ → EndR I S M H rel Q (fun cls dd H' => w cls dd σ H') (f env x S) → P x H) :
    rdT I w ta σ H P := by
  obtain ⟨e, S, M, sim, sl, p⟩ := h
  refine ⟨e, S, M, sim, sl, (EndR.bind (rel1 := fun _ _ a b => a = b) p).imp fun v H1 ⟨x, S1, M1, l1, s1, r1, p1⟩ => ?_⟩
  subst r1
  exact k x e S1 M1 H1 s1 (sl.mono l1) p1
theorem st_and (ha : PT X a (rdT I w ta)) (hb : PW X (.BoolOp .And (b :: rest) pos) (rdT I w tb)) : PW X (.BoolOp .And (a :: b :: rest) pos) (rdT I w (dAnd ta tb)) :=
  PW_imp (pw_and ha hb) fun σ H Q q => rdT_one (f := fun e c S1 => if c = true then tb e S1 else .ok false S1) q fun x e S M H s sl p => by
    split at p
    · rename_i h
      rw [if_pos h]
      exact ⟨e, S, M, s, sl, p⟩
    · rename_i h
      rw [if_neg h]
      exact p.here s rfl
theorem st_or (ha : PT X a (rdT I w ta)) (hb : PW X (.BoolOp .Or (b :: rest) pos) (rdT I w tb)) : PW X (.BoolOp .Or (a :: b :: rest) pos) (rdT I w (dOr ta tb)) :=
  PW_imp (pw_or ha hb) fun σ H Q q => rdT_one (f := fun e c S1 => if c = true then .ok true S1 else tb e S1) q fun x e S M H s sl p => by
    split at p
    · rename_i h
      rw [if_pos h]
      exact p.here s rfl
    · rename_i h
      rw [if_neg h]
      exact ⟨e, S, M, s, sl, p⟩
theorem st_not (ha : PT X a (rdT I w ta)) : PT X (.UnaryOp .Not a pos) (rdT I w (dNot ta)) :=
  PT_imp (pt_not ha) fun σ H Q q => rdT_one (f := fun _ c S1 => .ok (!c) S1) q fun x e S M H s sl p => p.here s rfl
theorem sx_one {op : BoolOp} {t : TE} (h : PE X a t) : PE X (.BoolOp op [a] pos) t := pe_one h
theorem sx_and (ha : PE X a (rdE I w da)) (hb : PE X (.BoolOp .And (b :: rest) pos) (rdE I w db)) : PE X (.BoolOp .And (a :: b :: rest) pos) (rdE I w (dAndV da db)) :=
  PE_imp (pe_and ha hb) fun σ H Q q => rd_one (f := fun e x S1 => match x with
  | .d (.bl c) => if c = true then db e S1 else .ok (.d (.bl false)) S1
  | _ => .bad) q fun x v e S M H s sl r p => by
    split at p
    · cases r
      refine ⟨_, rfl, ?_⟩
      split at p
      · rename_i h
        rw [if_pos h]
        exact ⟨e, S, M, s, sl, p⟩
      · rename_i h
        rw [if_neg h]
        exact p.here s (.bl _)
    · exact p.elim
theorem sx_or (ha : PE X a (rdE I w da)) (hb : PE X (.BoolOp .Or (b :: rest) pos) (rdE I w db)) : PE X (.BoolOp .Or (a :: b :: rest) pos) (rdE I w (dOrV da db)) :=
  PE_imp (pe_or ha hb) fun σ H Q q => rd_one (f := fun e x S1 => match x with
  | .d (.bl c) => if c = true then .ok (.d (.bl true)) S1 else db e S1
  | _ => .bad) q fun x v e S M H s sl r p => by
    split at p
    · cases r
      refine ⟨_, rfl, ?_⟩
      split at p
      · rename_i h
        rw [if_pos h]
        exact p.here s (.bl _)
      · rename_i h
        rw [if_neg h]
        exact ⟨e, S, M, s, sl, p⟩
    · exact p.elim
theorem sx_not (ha : PE X a (rdE I w da)) : PE X (.UnaryOp .Not a pos) (rdE I w (dNotV da)) :=
  PE_imp (pe_not ha) fun σ H Q q => rd_one (rel := RepW I) (f := fun _ x S1 => match x with
  | .d (.bl c) => .ok (W.d (D.bl (!c))) S1
  | _ => .bad) q fun x v e S M H s sl r p => by
    split at p
    · cases r
      exact ⟨_, rfl, p.here s (.bl _)⟩
    · exact p.elim
theorem sx_if (hc : PT X c (rdT I w ta)) (ha : PE X a (rdE I w da)) (hb : PE X b (rdE I w db)) : PE X (.IfExp c a b pos) (rdE I w (dIf ta da db)) :=
  PE_imp (pe_ifExp hc ha hb) fun σ H Q q => rdT_one (f := fun e c S1 => if c = true then da e S1 else db e S1) q fun x e S M H s sl p => by
    split at p
    · rename_i h
      rw [if_pos h]
      exact ⟨e, S, M, s, sl, p⟩
    · rename_i h
      rw [if_neg h]
      exact ⟨e, S, M, s, sl, p⟩
theorem sx_chain {op op' : CmpOp} {f g : W → W → Sto → R W} (ho : OpR X (compareOp op) (rdOp I f)) (ho' : OpR X (compareOp op') (rdOp I g)) (ha : PE X a (rdE I w da)) (hb : PE X b (rdE I w db)) (hc : PE X c (rdE I w dc))
    (hm : lastMarks [op, op'] [b, c] = false := by with_unfolding_all rfl) : PE X (.Compare a [op, op'] [b, c] pos) (rdE I w (dChain f g da db dc)) :=
  PE_imp (pe_chain ho ho' ha hb hc hm) fun σ H Q q => by
    obtain ⟨e, S, M, sim, sl, p⟩ := q
    refine ⟨e, S, M, sim, sl, (EndR.bind (rel1 := RepW I) p).imp fun v H1 ⟨x, S1, M1, l1, s1, r1, p1⟩ => ?_⟩
    refine ⟨e, S1, M1, s1, sl.mono l1, (EndR.bind (rel1 := RepW I) p1).imp fun u H2 ⟨y, S2, M2, l2, s2, r2, p2⟩ => ?_⟩
    refine ⟨x, y, S2, M2, s2, r1.mono l2, r2, ((EndR.bind (rel1 := RepW I) p2).ne (E' := E0)).imp fun z H3 ⟨d, S3, M3, l3, s3, r3, p3⟩ => ?_⟩
    split at p3
    · cases r3
      refine ⟨_, rfl, ?_⟩
      split at p3
      · rename_i h
        rw [if_pos h]
        refine ⟨e, S3, M3, s3, ((sl.mono l1).mono l2).mono l3, (EndR.bind (rel1 := RepW I) p3).imp fun u4 H4 ⟨z4, S4, M4, l4, s4, r4, p4⟩ => ?_⟩
        exact ⟨y, z4, S4, M4, s4, (r2.mono l3).mono l4, r4, p4.ne⟩
      · rename_i h
        rw [if_neg h]
        exact p3.here s3 (.bl _)
    · exact p3.elim
end
end Py

/-! Py7: built-in functions, isinstance, slices, operators of one's own. -/
namespace Py
open PySem PySem.Spec PyProof.Rows L2
@[simp] def dB (g : List W → Sto → R W) (a : DA) : DE := fun e S => (a e S).bind fun ws S1 => (g ws S1).ne
@[simp] def gLen : List W → Sto → R W
  | [.d (.str x)], S => if x.length ≤ sizeLine then .ok (.d (.int x.length)) S else .bad
  | [x], S => match seqOf x S with
    | some ws => .ok (.d (.int ws.length)) S
    | none => .bad
  | _, _ => .bad
@[simp] def gAbs : List W → Sto → R W
  | [.d (.int i)], S => .ok (.d (.int (if i < 0 then -i else i))) S
  | _, _ => .bad
@[simp] def gMax2 : List W → Sto → R W
  | [.d (.int i), .d (.int j)], S => .ok (.d (.int (if j > i then j else i))) S
  | _, _ => .bad
@[simp] def gMin2 : List W → Sto → R W
  | [.d (.int i), .d (.int j)], S => .ok (.d (.int (if j < i then j else i))) S
  | _, _ => .bad
@[simp] def gInt : List W → Sto → R W
  | [.d (.int i)], S => .ok (.d (.int i)) S
  | [.d (.bl b)], S => .ok (.d (.int (if b then 1 else 0))) S
  | _, _ => .bad
@[simp] def gStr : List W → Sto → R W
  | [.d (.int i)], S => if i.natAbs.log2 < 1920 then .ok (.d (.str (toString i : String))) S else .bad
  | _, _ => .bad
/-- what a list holds -/
@[simp] def lsOf : W → Sto → Option (List W)
  | .d (.lst xs), _ => some (xs.map W.d)
  | .d (.lsx xs), _ => some (xs.map W.d)
  | .c i, S => match S[i]? with
    | some (.lst ws) => some ws
    | _ => none
  | _, _ => none
@[simp] def gTuple : List W → Sto → R W
  | [.d (.tup xs)], S => .ok (.d (.tup xs)) S
  | [x], S => match lsOf x S with
    | some ws => match plainL ws with
      | some xs => .ok (.d (.tup xs)) S
      | none => .bad
    | none => .bad
  | _, _ => .bad
@[simp] def gList : List W → Sto → R W
  | [x], S => match seqOf x S with
    | some ws => match plainL ws with
      | some xs => .ok (.d (.lst xs)) S
      | none => .bad
    | none => .bad
  | _, _ => .bad
@[simp] def gListC : List W → Sto → R W
  | [x], S => match seqOf x S with
    | some ws => .ok (.c S.length) (S ++ [.lst ws])
    | none => .bad
  | _, _ => .bad
section
variable {J : Jn} {X : Cx} {I : Inf} {w : WX} {F Fi : FnTab} {k : Nat} {a b c e : Expr} {es rest : List Expr} {da db dc : DE} {dr : DA} {pos p : Pos} {x : Str} {id T : String}
def rdCall (I : Inf) (g : List W → Sto → R W) : List V → Hp → VK → Prop := fun vs H Q => ∃ (ws : List W) (S : Sto) (M : List Addr), Sim I S M H ∧ RepWs I M (mask S M H) ws vs ∧ EndR I S M H (RepW I) Q E0 (g ws S)
theorem sx_fn {g : List W → Sto → R W} (hc : CallR X (.builtin id) (rdCall (J.inf X.K) g)) (t : Cok J X w F Fi k) (hb : J.sg.blt x = true) (hv : bootBuiltins x = some (.builtin id)) (ha : PA X (e :: es) (rdA (J.inf X.K) w dr)) (hg : Gl X x := by rfl) (hn : x ≠ "__name__" := by decide) (hdb : (x == ("__debug__" : Str)) = false := by decide)
    (he : starEach (e :: es) X.env = (false, eval e X.env) :: starEach es X.env := by rfl) (hpl : (backTo pos (starEach es X.env)).any (·.1) = false := by rfl) : PE X (.Call (.Name x p) (e :: es) [] pos) (rdE (J.inf X.K) w (dB g dr)) :=
  PE_imp (pe_callB hc hg (t.glb x hb) hv ha hn hdb he hpl) fun σ H Q q => rd_args (f := fun ws S1 => (g ws S1).ne) q fun ws vs e S M H s sl r p => ⟨ws, S, M, s, r, p.ne⟩
theorem sx_ty {g : List W → Sto → R W} (hc : CallR X (.type T) (rdCall (J.inf X.K) g)) (t : Cok J X w F Fi k) (hb : J.sg.blt x = true) (hv : bootBuiltins x = some (.type T)) (ha : PA X (e :: es) (rdA (J.inf X.K) w dr)) (hg : Gl X x := by rfl) (hn : x ≠ "__name__" := by decide) (hdb : (x == ("__debug__" : Str)) = false := by decide)
    (he : starEach (e :: es) X.env = (false, eval e X.env) :: starEach es X.env := by rfl) (hpl : (backTo pos (starEach es X.env)).any (·.1) = false := by rfl) : PE X (.Call (.Name x p) (e :: es) [] pos) (rdE (J.inf X.K) w (dB g dr)) :=
  PE_imp (pe_callTy hc hg (t.glb x hb) hv ha hn hdb he hpl) fun σ H Q q => rd_args (f := fun ws S1 => (g ws S1).ne) q fun ws vs e S M H s sl r p => ⟨ws, S, M, s, r, p.ne⟩
theorem RepWs.one {M : List Addr} {H : Hp} {x : W} {vs : List V} (r : RepWs I M H [x] vs) : ∃ v, vs = [v] ∧ RepW I M H x v := by
  cases r with
  | cons r t => cases t; exact ⟨_, rfl, r⟩
theorem RepWs.two {M : List Addr} {H : Hp} {x y : W} {vs : List V} (r : RepWs I M H [x, y] vs) : ∃ v u, vs = [v, u] ∧ RepW I M H x v ∧ RepW I M H y u := by
  cases r with
  | cons r t => cases t with | cons r2 t => cases t; exact ⟨_, _, rfl, r, r2⟩
theorem lsOf_at {S : Sto} {M : List Addr} {H : Hp} {x : W} {v : V} {ws : List W} (sim : Sim I S M H) (r : RepW I M (mask S M H) x v) (e : lsOf x S = some ws) : ∃ a vs, v = .ref a ∧ SqL I.K H a vs ∧ RepWs I M (mask S M H) ws vs := by
  unfold lsOf at e
  split at e
  · cases e
    cases r with
    | lst h q => exact ⟨_, _, rfl, .inl (.inl (mask_ex _ _ h)), reps_map q⟩
  · cases e
    cases r with
    | lsx h q => exact ⟨_, _, rfl, ex_l mask_ex h, reps_map q⟩
  · split at e
    · rename_i y i hc
      cases e
      obtain ⟨a, ea, rfl⟩ := r
      obtain ⟨vs, ho, q⟩ := sim.cell _ _ a hc ea
      exact ⟨a, vs, rfl, .inl (.inl ho), q⟩
    · cases e
  · cases e
theorem c_len : CallR X (.builtin "len") (rdCall ⟨X.K, I.G, I.fl, I.X, I.ex⟩ gLen) := by
  intro pins s σ H vs us Q In r hh
  obtain ⟨ws, S, M, sim, rw', p⟩ := hh
  unfold gLen at p
  split at p
  · split at p
    · obtain ⟨v, rfl, rv⟩ := rw'.one
      cases rv
      exact call_len_str pins s σ H _ us Q In r ⟨_, rfl, by assumption, p.here sim (.int _)⟩
    · exact p.elim
  · split at p
    · obtain ⟨v, rfl, rv⟩ := rw'.one
      obtain ⟨a, vs, rfl, h, q⟩ := seqOf_at sim rv (by assumption)
      rw [Paired.length q] at p
      exact call_len_seq pins s σ H _ us Q In r ⟨a, vs, rfl, h, p.here sim (.int _)⟩
    · exact p.elim
  · exact p.elim
theorem c_abs : CallR X (.builtin "abs") (rdCall I gAbs) := by
  intro pins s σ H vs us Q In r hh
  obtain ⟨ws, S, M, sim, rw', p⟩ := hh
  unfold gAbs at p
  split at p
  · obtain ⟨v, rfl, rv⟩ := rw'.one
    cases rv
    exact call_abs pins s σ H _ us Q In r ⟨_, rfl, p.here sim (.int _)⟩
  · exact p.elim
theorem c_max2 (hc : X.calm = true) : CallR X (.builtin "max") (rdCall I gMax2) := by
  intro pins s σ H vs us Q In r hh
  obtain ⟨ws, S, M, sim, rw', p⟩ := hh
  unfold gMax2 at p
  split at p
  · obtain ⟨v, u, rfl, rv, ru⟩ := rw'.two
    cases rv
    cases ru
    exact call_max2 hc pins s σ H _ us Q In r ⟨_, _, rfl, p.here sim (.int _)⟩
  · exact p.elim
theorem c_min2 (hc : X.calm = true) : CallR X (.builtin "min") (rdCall I gMin2) := by
  intro pins s σ H vs us Q In r hh
  obtain ⟨ws, S, M, sim, rw', p⟩ := hh
  unfold gMin2 at p
  split at p
  · obtain ⟨v, u, rfl, rv, ru⟩ := rw'.two
    cases rv
    cases ru
    exact call_min2 hc pins s σ H _ us Q In r ⟨_, _, rfl, p.here sim (.int _)⟩
  · exact p.elim
theorem c_int : CallR X (.type "int") (rdCall I gInt) := by
  intro pins s σ H vs us Q In r hh
  obtain ⟨ws, S, M, sim, rw', p⟩ := hh
  unfold gInt at p
  split at p
  · obtain ⟨v, rfl, rv⟩ := rw'.one
    cases rv
    exact call_int1 pins s σ H _ us Q In r (.inl ⟨_, rfl, p.here sim (.int _)⟩)
  · obtain ⟨v, rfl, rv⟩ := rw'.one
    cases rv
    exact call_int1 pins s σ H _ us Q In r (.inr ⟨_, rfl, p.here sim (.int _)⟩)
  · exact p.elim
theorem c_str : CallR X (.type "str") (rdCall I gStr) := by
  intro pins s σ H vs us Q In r hh
  obtain ⟨ws, S, M, sim, rw', p⟩ := hh
  unfold gStr at p
  split at p
  · split at p
    · obtain ⟨v, rfl, rv⟩ := rw'.one
      cases rv
      exact call_str_int pins s σ H _ us Q In r ⟨_, rfl, by assumption, p.here sim (.str _)⟩
    · exact p.elim
  · exact p.elim
theorem c_tuple : CallR X (.type "tuple") (rdCall ⟨X.K, I.G, I.fl, I.X, I.ex⟩ gTuple) := by
  intro pins s σ H vs us Q In r hh
  obtain ⟨ws, S, M, sim, rw', p⟩ := hh
  unfold gTuple at p
  split at p
  · obtain ⟨v, rfl, rv⟩ := rw'.one
    cases rv with
    | tup h q => exact call_tuple_of pins s σ H _ us Q In r ⟨_, _, rfl, .inr ⟨ex_t mask_ex h, p.here sim (.tup h q)⟩⟩
  · split at p
    · rename_i ws hw
      split at p
      · rename_i xs hx
        obtain ⟨v, rfl, rv⟩ := rw'.one
        obtain ⟨a, vs, rfl, h, q⟩ := lsOf_at sim rv hw
        exact call_tuple_of pins s σ H _ us Q In r ⟨_, _, rfl, .inl ⟨h, fun l nl => new_d p sim nl fun H' hl ex => .tup (.inl (.inl hl)) ((plainL_rep q hx).mono ex)⟩⟩
      · exact p.elim
    · exact p.elim
  · exact p.elim
theorem c_list : CallR X (.type "list") (rdCall ⟨X.K, I.G, I.fl, I.X, I.ex⟩ gList) := by
  intro pins s σ H vs us Q In r hh
  obtain ⟨ws, S, M, sim, rw', p⟩ := hh
  unfold gList at p
  split at p
  · split at p
    · rename_i ws hw
      split at p
      · rename_i xs hx
        obtain ⟨v, rfl, rv⟩ := rw'.one
        obtain ⟨a, vs, rfl, h, q⟩ := seqOf_at sim rv hw
        exact call_list_of pins s σ H _ us Q In r ⟨_, _, rfl, h, fun l nl => new_d p sim nl fun H' hl ex => .lst hl ((plainL_rep q hx).mono ex)⟩
      · exact p.elim
    · exact p.elim
  · exact p.elim
theorem c_listC : CallR X (.type "list") (rdCall ⟨X.K, I.G, I.fl, I.X, I.ex⟩ gListC) := by
  intro pins s σ H vs us Q In r hh
  obtain ⟨ws, S, M, sim, rw', p⟩ := hh
  unfold gListC at p
  split at p
  · split at p
    · rename_i ws hw
      obtain ⟨v, rfl, rv⟩ := rw'.one
      obtain ⟨a, vs, rfl, h, q⟩ := seqOf_at sim rv hw
      exact call_list_of pins s σ H _ us Q In r ⟨_, _, rfl, h, fun l nl => new_c p sim nl (lows_of sim q) ⟨_, rfl, q⟩ (by intro z; cases z)⟩
    · exact p.elim
  · exact p.elim
/-! ### of a list of ints, of bools -/
def intsL : List W → Option (List Int)
  | [] => some []
  | .d (.int i) :: r => (intsL r).map (i :: ·)
  | _ => none
def boolsL : List W → Option (List Bool)
  | [] => some []
  | .d (.bl i) :: r => (boolsL r).map (i :: ·)
  | _ => none
theorem intsL_map : ∀ {ns : List Int}, intsL ((ns.map D.int).map W.d) = some ns
  | [] => rfl
  | n :: ns => by
    rw [List.map_cons, List.map_cons, intsL, intsL_map]
    rfl
theorem boolsL_map : ∀ {ns : List Bool}, boolsL ((ns.map D.bl).map W.d) = some ns
  | [] => rfl
  | n :: ns => by
    rw [List.map_cons, List.map_cons, boolsL, boolsL_map]
    rfl
theorem intsL_rep {M : List Addr} {H : Hp} : ∀ {ws : List W} {vs : List V} {ns : List Int}, RepWs I M H ws vs → intsL ws = some ns → vs = ns.map V.int
  | [], _, _, .nil, e => by cases e; rfl
  | .d (.int i) :: ws, _, ns, .cons r t, e => by
    rw [intsL] at e
    cases q : intsL ws with
    | none => rw [q] at e; cases e
    | some ms =>
      rw [q] at e
      cases e
      cases r
      rw [intsL_rep t q]
      rfl
theorem boolsL_rep {M : List Addr} {H : Hp} : ∀ {ws : List W} {vs : List V} {ns : List Bool}, RepWs I M H ws vs → boolsL ws = some ns → vs = ns.map V.bl
  | [], _, _, .nil, e => by cases e; rfl
  | .d (.bl i) :: ws, _, ns, .cons r t, e => by
    rw [boolsL] at e
    cases q : boolsL ws with
    | none => rw [q] at e; cases e
    | some ms =>
      rw [q] at e
      cases e
      cases r
      rw [boolsL_rep t q]
      rfl
def sortI (ns : List Int) : List Int := ns.mergeSort fun a b => decide (a ≤ b)
theorem sortI_eq {ns ms : List Int} (h : ms.Perm ns) (p : ms.Pairwise (· ≤ ·)) : ms = sortI ns := by
  refine List.Perm.eq_of_pairwise (le := (· ≤ ·)) (fun a b _ _ h1 h2 => Int.le_antisymm h1 h2) p ?_ (h.trans (List.mergeSort_perm ns _).symm)
  have := List.pairwise_mergeSort (le := fun (a b : Int) => decide (a ≤ b)) (fun a b c h1 h2 => by simp at *; omega) (fun a b => by simp; omega) ns
  exact this.imp fun h => by simpa using h
def gMax1 : List W → Sto → R W
  | [x], S => match (lsOf x S).bind intsL with
    | some ns => match ns.max? with
      | some m => .ok (.d (.int m)) S
      | none => .bad
    | none => .bad
  | _, _ => .bad
def gSum : List W → Sto → R W
  | [x], S => match (lsOf x S).bind intsL with
    | some ns => .ok (.d (.int ns.sum)) S
    | none => .bad
  | _, _ => .bad
def gSort : List W → Sto → R W
  | [x], S => match (lsOf x S).bind intsL with
    | some ns => .ok (.d (.lst ((sortI ns).map D.int))) S
    | none => .bad
  | _, _ => .bad
def gAny : List W → Sto → R W
  | [x], S => match (lsOf x S).bind boolsL with
    | some ns => .ok (.d (.bl (ns.any _root_.id))) S
    | none => .bad
  | _, _ => .bad
def gAll : List W → Sto → R W
  | [x], S => match (lsOf x S).bind boolsL with
    | some ns => .ok (.d (.bl (ns.all _root_.id))) S
    | none => .bad
  | _, _ => .bad
theorem ints_at {S : Sto} {M : List Addr} {H : Hp} {x : W} {v : V} {ns : List Int} (sim : Sim I S M H) (r : RepW I M (mask S M H) x v) (e : (lsOf x S).bind intsL = some ns) : ∃ a, v = .ref a ∧ SqL I.K H a (ns.map V.int) := by
  cases q : lsOf x S with
  | none => rw [q] at e; cases e
  | some ws =>
    rw [q] at e
    obtain ⟨a, vs, rfl, h, t⟩ := lsOf_at sim r q
    rw [intsL_rep t e] at h
    exact ⟨a, rfl, h⟩
theorem bools_at {S : Sto} {M : List Addr} {H : Hp} {x : W} {v : V} {ns : List Bool} (sim : Sim I S M H) (r : RepW I M (mask S M H) x v) (e : (lsOf x S).bind boolsL = some ns) : ∃ a, v = .ref a ∧ SqL I.K H a (ns.map V.bl) := by
  cases q : lsOf x S with
  | none => rw [q] at e; cases e
  | some ws =>
    rw [q] at e
    obtain ⟨a, vs, rfl, h, t⟩ := lsOf_at sim r q
    rw [boolsL_rep t e] at h
    exact ⟨a, rfl, h⟩
theorem reps_ints {H : Hp} : ∀ {ns : List Int}, Reps I H (ns.map D.int) (ns.map V.int)
  | [] => .nil
  | n :: ns => .cons (.int n) reps_ints
theorem c_max1 (hc : X.calm = true) : CallR X (.builtin "max") (rdCall ⟨X.K, I.G, I.fl, I.X, I.ex⟩ gMax1) := by
  intro pins s σ H vs us Q In r hh
  obtain ⟨ws, S, M, sim, rw', p⟩ := hh
  unfold gMax1 at p
  split at p
  · split at p
    · rename_i ns hn
      split at p
      · rename_i m hm
        obtain ⟨v, rfl, rv⟩ := rw'.one
        obtain ⟨a, rfl, h⟩ := ints_at sim rv hn
        obtain ⟨m1, m2⟩ := List.max?_eq_some_iff.mp hm
        refine cr_max hc pins s σ H _ us Q In r ⟨a, ns, rfl, h, List.length_pos_of_mem m1, fun m' h1 h2 => ?_⟩
        have : m' = m := Int.le_antisymm (m2 _ h1) (h2 _ m1)
        subst this
        exact p.here sim (.int _)
      · exact p.elim
    · exact p.elim
  · exact p.elim
theorem c_sum (hc : X.calm = true) : CallR X (.builtin "sum") (rdCall ⟨X.K, I.G, I.fl, I.X, I.ex⟩ gSum) := by
  intro pins s σ H vs us Q In r hh
  obtain ⟨ws, S, M, sim, rw', p⟩ := hh
  unfold gSum at p
  split at p
  · split at p
    · rename_i ns hn
      obtain ⟨v, rfl, rv⟩ := rw'.one
      obtain ⟨a, rfl, h⟩ := ints_at sim rv hn
      exact cr_sum hc pins s σ H _ us Q In r ⟨a, ns, rfl, h, p.here sim (.int _)⟩
    · exact p.elim
  · exact p.elim
theorem c_any (hc : X.calm = true) : CallR X (.builtin "any") (rdCall ⟨X.K, I.G, I.fl, I.X, I.ex⟩ gAny) := by
  intro pins s σ H vs us Q In r hh
  obtain ⟨ws, S, M, sim, rw', p⟩ := hh
  unfold gAny at p
  split at p
  · split at p
    · rename_i ns hn
      obtain ⟨v, rfl, rv⟩ := rw'.one
      obtain ⟨a, rfl, h⟩ := bools_at sim rv hn
      exact cr_any hc pins s σ H _ us Q In r ⟨a, ns, rfl, h, p.here sim (.bl _)⟩
    · exact p.elim
  · exact p.elim
theorem c_all (hc : X.calm = true) : CallR X (.builtin "all") (rdCall ⟨X.K, I.G, I.fl, I.X, I.ex⟩ gAll) := by
  intro pins s σ H vs us Q In r hh
  obtain ⟨ws, S, M, sim, rw', p⟩ := hh
  unfold gAll at p
  split at p
  · split at p
    · rename_i ns hn
      obtain ⟨v, rfl, rv⟩ := rw'.one
      obtain ⟨a, rfl, h⟩ := bools_at sim rv hn
      exact cr_all hc pins s σ H _ us Q In r ⟨a, ns, rfl, h, p.here sim (.bl _)⟩
    · exact p.elim
  · exact p.elim
theorem c_sorted : CallR X (.builtin "sorted") (rdCall ⟨X.K, I.G, I.fl, I.X, I.ex⟩ gSort) := by
  intro pins s σ H vs us Q In r hh
  obtain ⟨ws, S, M, sim, rw', p⟩ := hh
  unfold gSort at p
  split at p
  · split at p
    · rename_i ns hn
      obtain ⟨v, rfl, rv⟩ := rw'.one
      obtain ⟨a, rfl, h⟩ := ints_at sim rv hn
      refine cr_sortedI pins s σ H _ us Q In r ⟨a, ns, rfl, h, fun ms l hp hs nl => ?_⟩
      rw [sortI_eq hp hs]
      exact new_d p sim nl fun H' hl ex => .lst hl reps_ints
    · exact p.elim
  · exact p.elim
/-! ### isinstance -/
inductive Ty where
  | non | bl | int | str | tup | lst | dct | cls (c : Nat)
@[simp] def tyOf : W → Sto → Option Ty
  | .d .non, _ => some .non
  | .d (.bl _), _ => some .bl
  | .d (.int _), _ => some .int
  | .d (.str _), _ => some .str
  | .d (.tup _), _ => some .tup
  | .d (.lst _), _ => some .lst
  | .d (.lsx _), _ => some .lst
  | .d (.obj c _), _ => some (.cls c)
  | .d (.dK _), _ => some .dct
  | .d (.dT _), _ => some .dct
  | .c i, S => match S[i]? with
    | some (.lst _) => some .lst
    | some (.ins c _) => some (.cls c)
    | some (.dK _) => some .dct
    | some (.dT _) => some .dct
    | _ => none
  | .e _ _, _ => none
def Ty.nm : Ty → String
  | .non => "NoneType" | .bl => "bool" | .int => "int" | .str => "str" | .tup => "tuple" | .lst => "list" | .dct => "dict" | .cls _ => ""
/-- is t of the built-in type T -/
@[simp] def isT : Ty → Ty → Bool
  | .non, .non => true | .bl, .bl => true | .bl, .int => true | .int, .int => true | .str, .str => true | .tup, .tup => true | .lst, .lst => true | .dct, .dct => true
  | _, _ => false
@[simp] def dIsT (T : Ty) (a : DE) : DE := fun e S => (a e S).bind fun x S1 => match tyOf x S1 with
  | some t => .ok (.d (.bl (isT t T))) S1
  | none => .bad
@[simp] def dIsC (sub : Nat → Nat → Bool) (c : Nat) (a : DE) : DE := fun e S => (a e S).bind fun x S1 => match tyOf x S1 with
  | some (.cls c') => .ok (.d (.bl (sub c' c))) S1
  | some _ => .ok (.d (.bl false)) S1
  | none => .bad
theorem kitb (t T : Ty) (h1 : t.nm ≠ "") (h2 : T.nm ≠ "") : kitB t.nm T.nm = some (isT t T) := by
  cases t <;> cases T <;> first | exact absurd rfl h1 | exact absurd rfl h2 | decide +kernel
theorem nm_mem (t : Ty) (h : t.nm ≠ "") : t.nm ∈ ["NoneType", "bool", "int", "str", "tuple", "list", "dict"] := by
  cases t <;> first | exact absurd rfl h | simp [Ty.nm]
/-- a value's type -/
theorem ty_at (t : Cok J X w F Fi k) {S : Sto} {M : List Addr} {H : Hp} {x : W} {v : V} {y : Ty} (sim : Sim (J.inf X.K) S M H) (r : RepW (J.inf X.K) M (mask S M H) x v) (e : tyOf x S = some y) :
    (y.nm ≠ "" ∧ TyX X.K H v (.type y.nm)) ∨ ∃ c C, y = .cls c ∧ J.G c = some C ∧ TyX X.K H v (.ref C) := by
  have lstX : ∀ {a : Addr} {vs : List V}, SqL X.K H a vs → TyX X.K H (.ref a) (.type "list") := fun {a vs} h => by
    rcases h with (h | ⟨o, h⟩) | ⟨o, its, n, h1, h2, _⟩
    · exact .base (.lst h)
    · exact .base (.frz h)
    · exact .kList h1 h2
  unfold tyOf at e
  split at e
  · cases e; cases r; exact .inl ⟨by decide, .base .non⟩
  · cases e; cases r; exact .inl ⟨by decide, .base (.bl _)⟩
  · cases e; cases r; exact .inl ⟨by decide, .base (.int _)⟩
  · cases e; cases r; exact .inl ⟨by decide, .base (.str _)⟩
  · cases e
    cases r with
    | tup h q =>
      refine .inl ⟨by decide, ?_⟩
      rcases ex_t mask_ex h with (h | ⟨o, h⟩) | ⟨o, its, n, h1, h2, _⟩
      · exact .base (.tup h)
      · exact .fTuple h
      · exact .kTuple h1 h2
  · cases e
    cases r with
    | lst h q => exact .inl ⟨by decide, lstX (.inl (.inl (mask_ex _ _ h)))⟩
  · cases e
    cases r with
    | lsx h q => exact .inl ⟨by decide, lstX (ex_l mask_ex h)⟩
  · cases e
    cases r with
    | obj g h l q =>
      obtain ⟨t1, t2, t3, t4⟩ := t.ty _ _ g
      exact .inr ⟨_, _, rfl, g, .base (.ins (mask_ex _ _ h) (t.cls _ _ g) t1 t2 t3 t4)⟩
  · cases e
    cases r with
    | dK h q => exact .inl ⟨by decide, .base (.dK (mask_ex _ _ h))⟩
  · cases e
    cases r with
    | dT h q => exact .inl ⟨by decide, .base (.dT (mask_ex _ _ h))⟩
  · obtain ⟨a, ea, rfl⟩ := r
    split at e
    · cases e
      obtain ⟨vs, ho, q⟩ := sim.cell _ _ a (by assumption) ea
      exact .inl ⟨by decide, lstX (.inl (.inl ho))⟩
    · cases e
      obtain ⟨C, dx, vs, g, h, l, q⟩ := sim.cell _ _ a (by assumption) ea
      obtain ⟨t1, t2, t3, t4⟩ := t.ty _ _ g
      exact .inr ⟨_, _, rfl, g, .base (.ins h (t.cls _ _ g) t1 t2 t3 t4)⟩
    · cases e
      obtain ⟨us, h, q⟩ := sim.cell _ _ a (by assumption) ea
      exact .inl ⟨by decide, .base (.dK h)⟩
    · cases e
      obtain ⟨us, h, q⟩ := sim.cell _ _ a (by assumption) ea
      exact .inl ⟨by decide, .base (.dT h)⟩
    · cases e
  · cases e
theorem sx_isT {n : String} {xt : Str} {pt : Pos} {T' : Ty} (t : Cok J X w F Fi k) (hn : T'.nm = n) (h2 : T'.nm ≠ "") (hb : J.sg.blt "isinstance" = true) (hb2 : J.sg.blt xt = true) (hv : bootBuiltins xt = some (.type n)) (ha : PE X a (rdE (J.inf X.K) w da)) (hg : Gl X "isinstance" := by rfl) (hg2 : Gl X xt := by rfl) (hn2 : xt ≠ "__name__" := by decide) (hdb2 : (xt == ("__debug__" : Str)) = false := by decide)
    (he : starEach [a, .Name xt pt] X.env = (false, eval a X.env) :: starEach [.Name xt pt] X.env := by rfl) (hpl : (backTo pos (starEach [.Name xt pt] X.env)).any (·.1) = false := by rfl) : PE X (.Call (.Name "isinstance" p) [a, .Name xt pt] [] pos) (rdE (J.inf X.K) w (dIsT T' da)) :=
  PE_imp (pe_callB call_isi hg (t.glb _ hb) (by decide +kernel) (pa_cons ha (pa_cons (pe_bltn (v := .ty n) hg2 (t.glb _ hb2) hv rfl hn2 hdb2) pa_nil) he) (by decide) (by decide) he hpl) fun σ H Q q =>
    rd_one (rel := RepW (J.inf X.K)) (f := fun _ x S1 => match tyOf x S1 with
  | some t => .ok (W.d (.bl (isT t T'))) S1
  | none => .bad) q fun x v e S M H s sl r p => by
    split at p
    · rename_i y hy
      show ∃ (x c : V) (t u : Value) (b : Bool), [v, V.ty n] = [x, c] ∧ ClsV c u ∧ TyX X.K H x t ∧ PySem.W.kitOne X.K t u = some b ∧ Q (.bl b) H
      rcases ty_at t s r hy with ⟨h, ty⟩ | ⟨c, C, rfl, g, ty⟩
      · exact ⟨v, .ty n, _, .type n, _, rfl, .ty n, ty, by rw [← hn]; exact kit_ty (kitb y T' h h2), p.here s (.bl _)⟩
      · refine ⟨v, .ty n, _, .type n, _, rfl, .ty n, ty, by rw [← hn]; exact t.ist _ _ _ (nm_mem T' h2) g, ?_⟩
        have e : isT (.cls c) T' = false := by cases T' <;> rfl
        rw [e] at p
        exact p.here s (.bl _)
    · exact p.elim
theorem sx_isC {xt : Str} {pt : Pos} {c : Nat} (t : Cok J X w F Fi k) (hb : J.sg.blt "isinstance" = true) (hc : J.sg.cn xt = some c) (ha : PE X a (rdE (J.inf X.K) w da)) (hg : Gl X "isinstance" := by rfl) (hg2 : Gl X xt := by rfl) (hdb2 : (xt == ("__debug__" : Str)) = false := by decide)
    (he : starEach [a, .Name xt pt] X.env = (false, eval a X.env) :: starEach [.Name xt pt] X.env := by rfl) (hpl : (backTo pos (starEach [.Name xt pt] X.env)).any (·.1) = false := by rfl) : PE X (.Call (.Name "isinstance" p) [a, .Name xt pt] [] pos) (rdE (J.inf X.K) w (dIsC J.sg.sub c da)) := by
  obtain ⟨C, g, hm⟩ := t.cnm xt c hc
  refine PE_imp (pe_callB call_isi hg (t.glb _ hb) (by decide +kernel) (pa_cons ha (pa_cons (pe_glob (v := .ref C) hg2 hm rfl hdb2) pa_nil) he) (by decide) (by decide) he hpl) fun σ H Q q =>
    rd_one (rel := RepW (J.inf X.K)) (f := fun _ x S1 => match tyOf x S1 with
  | some (.cls c') => .ok (W.d (.bl (J.sg.sub c' c))) S1
  | some _ => .ok (W.d (.bl false)) S1
  | none => .bad) q fun x v e S M H s sl r p => ?_
  show ∃ (x c : V) (t u : Value) (b : Bool), [v, V.ref C] = [x, c] ∧ ClsV c u ∧ TyX X.K H x t ∧ PySem.W.kitOne X.K t u = some b ∧ Q (.bl b) H
  split at p
  · rename_i c' hy
    rcases ty_at t s r hy with ⟨h, ty⟩ | ⟨c2, C2, e2, g2, ty⟩
    · exact absurd rfl h
    · cases e2
      exact ⟨v, .ref C, _, .ref C, _, rfl, .own C, ty, t.isc _ _ _ _ g2 g, p.here s (.bl _)⟩
  · rename_i y hy hne
    rcases ty_at t s r hne with ⟨h, ty⟩ | ⟨c2, C2, e2, g2, ty⟩
    · exact ⟨v, .ref C, _, .ref C, _, rfl, .own C, ty, t.isb _ _ _ (nm_mem _ h) g, p.here s (.bl _)⟩
    · exact absurd e2 (hy c2)
  · exact p.elim
end
end Py

/-! Py8: slices; operators of one's own. -/
namespace Py
open PySem PySem.Spec PyProof.Rows L2
abbrev DO := Env → Sto → R (Option Int)
@[simp] def oNone : DO := fun _ S => .ok none S
@[simp] def oSome (a : DE) : DO := fun e S => (a e S).bind fun x S1 => match x with
  | .d (.int i) => .ok (some i) S1
  | _ => .bad
def cutL {α : Type} (xs : List α) (lo hi : Option Int) : List α := (xs.drop (HT.sIx xs.length 0 lo)).take (HT.sIx xs.length xs.length hi - HT.sIx xs.length 0 lo)
@[simp] def slc : W → Option Int → Option Int → Sto → R W
  | .d (.str x), lo, hi, S => if x.length ≤ sizeLine then .ok (.d (.str (cutS x lo hi))) S else .bad
  | .d (.tup xs), lo, hi, S => .ok (.d (.tup (cutL xs lo hi))) S
  | x, lo, hi, S => match lsOf x S with
    | some ws => match plainL ws with
      | some xs => .ok (.d (.lst (cutL xs lo hi))) S
      | none => .bad
    | none => .bad
@[simp] def dSl (a : DE) (lo hi : DO) : DE := fun e S => (a e S).bind fun x S1 => (lo e S1).bind fun l S2 => (hi e S2).bind fun u S3 => slc x l u S3
section
variable {J : Jn} {X : Cx} {I : Inf} {w : WX} {F Fi : FnTab} {k : Nat} {a b c e : Expr} {es rest : List Expr} {da db dc : DE} {dr : DA} {pos p p2 : Pos} {lo hi : Option Expr} {dl dh : DO}
def rdO (I : Inf) (w : WX) (d : DO) : TO := fun σ H Q => ∃ (env : Env) (S : Sto) (M : List Addr), Sim I S M H ∧ Slots I M (mask S M H) env σ ∧ EndR I S M H (fun _ _ a b => a = b) Q (fun cls dd H' => w cls dd σ H') (d env S)
theorem PO_imp {e : Option Expr} {t t' : TO} (h : PO X e t) (i : ∀ σ H Q, t' σ H Q → t σ H Q) : PO X e t' := ⟨fun pins s σ H Q I q => h.run pins s σ H Q I (i σ H Q q)⟩
theorem so_none : PO X none (rdO I w oNone) := PO_imp po_none fun σ H Q ⟨e, S, M, s, sl, p⟩ => EndR.here (rel := fun _ _ a b => a = b) p s rfl
theorem so_some (h : PE X a (rdE I w da)) : PO X (some a) (rdO I w (oSome da)) := PO_imp (po_some h) fun σ H Q q => rd_one (rel := fun _ _ a b => a = b) (f := fun _ x S1 => match x with
  | .d (.int i) => .ok (some i) S1
  | _ => .bad) q fun x v e S M H s sl r p => by
    split at p
    · cases r
      exact ⟨_, rfl, p.here s rfl⟩
    · exact p.elim
def rdSl (I : Inf) : V → Option Int → Option Int → Hp → VK → Prop := fun v lo hi H Q => ∃ (x : W) (S : Sto) (M : List Addr), Sim I S M H ∧ RepW I M (mask S M H) x v ∧ EndR I S M H (RepW I) Q E0 (slc x lo hi S)
theorem Reps.cut {H : Hp} {xs : List D} {vs : List V} (r : Reps I H xs vs) (lo hi : Option Int) : Reps I H (cutL xs lo hi) (cutV vs lo hi) := by
  unfold cutL cutV
  rw [r.len]
  exact (r.drop _).take _
theorem cut_whole {α : Type} {xs : List α} {lo hi : Option Int} (h : HT.sIx xs.length 0 lo = 0 ∧ HT.sIx xs.length xs.length hi = xs.length) : cutL xs lo hi = xs := by
  unfold cutL
  rw [h.1, h.2]
  simp
theorem sl_all : SlR X (rdSl ⟨X.K, I.G, I.fl, I.X, I.ex⟩) := by
  intro pins s σ H v u vl vu lo hi sl Q In rv hs pl pu hh
  obtain ⟨x, S, M, sim, rx, p⟩ := hh
  unfold slc at p
  split at p
  · split at p
    · cases rx
      exact sl_str pins s σ H _ u vl vu lo hi sl Q In rv hs pl pu ⟨_, rfl, by assumption, p.here sim (.str _)⟩
    · exact p.elim
  · cases rx with
    | tup h r =>
      refine sl_tupA pins s σ H _ u vl vu lo hi sl Q In rv hs pl pu ⟨_, _, rfl, ex_t mask_ex h, fun e => ?_, fun _ q nq => new_d p sim nq fun H' hl ex => .tup (.inl (.inl hl)) ((r.cut lo hi).mono ex)⟩
      rw [← r.len] at e
      rw [cut_whole e] at p
      exact p.here sim (.tup h r)
  · split at p
    · rename_i ws hw
      split at p
      · rename_i xs hx
        obtain ⟨a, vs, rfl, h, q⟩ := lsOf_at sim rx hw
        exact sl_list pins s σ H _ u vl vu lo hi sl Q In rv hs pl pu ⟨a, vs, rfl, h, fun q' nq => new_d p sim nq fun H' hl ex => .lst hl (((plainL_rep q hx).cut lo hi).mono ex)⟩
      · exact p.elim
    · exact p.elim
theorem slc_ne (x : W) (lo hi : Option Int) (S : Sto) : slc x lo hi S = (slc x lo hi S).ne := by
  unfold slc
  repeat' split
  all_goals rfl
theorem sx_sl (ha : PE X a (rdE ⟨X.K, I.G, I.fl, I.X, I.ex⟩ w da)) (hl : PO X lo (rdO ⟨X.K, I.G, I.fl, I.X, I.ex⟩ w dl)) (hh : PO X hi (rdO ⟨X.K, I.G, I.fl, I.X, I.ex⟩ w dh)) : PE X (.Subscript a (.Slice lo hi none p2) pos) (rdE ⟨X.K, I.G, I.fl, I.X, I.ex⟩ w (dSl da dl dh)) :=
  PE_imp (pe_slice sl_all ha hl hh) fun σ H Q q => by
    obtain ⟨e, S, M, sim, sl, p⟩ := q
    refine ⟨e, S, M, sim, sl, (EndR.bind (rel1 := RepW ⟨X.K, I.G, I.fl, I.X, I.ex⟩) p).imp fun v H1 ⟨x, S1, M1, l1, s1, r1, p1⟩ => ?_⟩
    refine ⟨e, S1, M1, s1, sl.mono l1, (EndR.bind (rel1 := fun _ _ a b => a = b) p1).imp fun y H2 ⟨y', S2, M2, l2, s2, r2, p2⟩ => ?_⟩
    subst r2
    refine ⟨e, S2, M2, s2, (sl.mono l1).mono l2, (EndR.bind (rel1 := fun _ _ a b => a = b) p2).imp fun z H3 ⟨z', S3, M3, l3, s3, r3, p3⟩ => ?_⟩
    subst r3
    exact ⟨x, S3, M3, s3, (r1.mono l2).mono l3, noE (slc_ne _ _ _ _) p3⟩
end
/-! ### a method of a class, called by values -/
section
variable {J : Jn} {X : Cx} {w : WX} {F Fi : FnTab} {k : Nat}
/-- an operator that the class c has as the method f; else g -/
@[simp] def opO (F : FnTab) (c f : Nat) (g : W → W → Sto → R W) : W → W → Sto → R W
  | .d (.obj c1 xs), .d (.obj c2 ys), S => if c1 = c ∧ c2 = c then F f [.d (.obj c1 xs), .d (.obj c2 ys)] S else .bad
  | x, y, S => g x y S
@[simp] def unO (F : FnTab) (c f : Nat) (g : W → Sto → R W) : W → Sto → R W
  | .d (.obj c1 xs), S => if c1 = c then F f [.d (.obj c1 xs)] S else .bad
  | x, S => g x S
theorem rel_ref {a : Addr} : RelV (.ref a) (.ref a) := rfl
theorem cmpBack_of {Q : VK} {pins : List (Addr × Obj)} {σ : L2.St} {v : Value} {s' : Shared} (h : EP X pins σ Q v s') : PySem.W.CmpBack (EP X pins σ Q) v s' := by
  obtain ⟨x, H', I', r, q⟩ := id h
  cases x <;> first
    | (obtain ⟨t, rfl⟩ := r; exact h)
    | (cases r; exact h)
theorem obj_look {I : Inf} {pins : List (Addr × Obj)} {σ : L2.St} {H : Hp} {s : Shared} {a C dx : Addr} {fs : List (Str × V)} (In : Inv X pins σ H s) (h : H a = some (.ins C dx fs)) : ∃ od, PySem.W.InstAt s.heap a (PySem.W.instObj C dx) C (some od) := by
  obtain ⟨mA, O, _⟩ := ins_get In.hok h
  obtain ⟨od, J, _⟩ := O.look
  exact ⟨od, J⟩
theorem run_m (t : Cok J X w F Fi k) {f c n : Nat} {m : Str} {fa : Addr} {fd : FuncData} {ps : List Str} (h3 : FnOk X.prog X.w X.K X.mg X.base (L2.CX X.prog X.w) (k + 1) fa fd ps (spOf (J.inf X.K) F f n)) (h4 : Binds X.K fd ps [])
    {pins : List (Addr × Obj)} {σ : L2.St} {H : Hp} {s : Shared} {Q : VK} {us : List Value} {vs : List V} {ws : List W} {S : Sto} {M : List Addr} (In : Inv X pins σ H s) (r : Vals vs us) (hl : vs.length = n) (sim : Sim (J.inf X.K) S M H) (rw' : RepWs (J.inf X.K) M (mask S M H) ws vs) (p : EndR (J.inf X.K) S M H (RepW (J.inf X.K)) Q E0 (F f ws S)) :
    wpAny (model X.prog X.w) X.A (call (.ref fa) us) (EP X pins σ Q) X.xe s :=
  run_fn (dvs := []) (E := E0) h3 t.room h4 .nil passL In r (by rw [List.append_nil]; exact ⟨hl, ws, S, M, sim, rw', p⟩)
theorem o_own (t : Cok J X w F Fi k) {op : Operator} {g : W → W → Sto → R W} {f c : Nat} {m : Str} (h : J.sg.mt f = some (c, m, 2)) (hm : m = PySem.dunder op.info.2) (hg : OpR X (binaryOp op) (rdOp (J.inf X.K) g)) : OpR X (binaryOp op) (rdOp (J.inf X.K) (opO F c f g)) := by
  intro pins s σ H v u ov ou Q In rv ru hh
  obtain ⟨x, y, S, M, sim, rx, ry, p⟩ := hh
  unfold opO at p
  split at p
  · split at p
    · rename_i hc
      obtain ⟨rfl, rfl⟩ := hc
      obtain ⟨C, fa, fd, ps, h1, h2, h3, h4⟩ := t.meth f _ m 2 h
      have rx0 := rx
      have ry0 := ry
      cases rx with
      | obj g1 e1 l1 q1 =>
      cases ry with
      | obj g2 e2 l2 q2 =>
      have eC := h1.symm.trans g1
      cases eC
      have eC := h1.symm.trans g2
      cases eC
      cases rv
      cases ru
      obtain ⟨od, J1⟩ := obj_look (I := J.inf X.K) In (mask_ex _ _ e1)
      obtain ⟨od2, J2⟩ := obj_look (I := J.inf X.K) In (mask_ex _ _ e2)
      obtain ⟨mm, hF⟩ := In.fr
      refine PySem.W.binop_K hF In.ok.mod.kin J1 J2.type (t.sf _ _ h1) (hm ▸ h2.at_) h2.fn ?_
      exact wpAny_mono (run_m (m := m) (c := 0) t h3 h4 In (.cons rel_ref (.cons rel_ref .nil)) rfl sim (.cons rx0 (.cons ry0 .nil)) p) (fun _ _ z => cmpBack_of z) fun _ _ z => z
    · exact p.elim
  · exact hg pins s σ H v u ov ou Q In rv ru ⟨x, y, S, M, sim, rx, ry, p⟩
theorem u_own (t : Cok J X w F Fi k) {g : W → Sto → R W} {f c : Nat} (h : J.sg.mt f = some (c, ("__neg__" : Str), 1)) (hg : UnR X (unaryOp .USub) (rdUn (J.inf X.K) g)) : UnR X (unaryOp .USub) (rdUn (J.inf X.K) (unO F c f g)) := by
  intro pins s σ H v ov Q In rv hh
  obtain ⟨x, S, M, sim, rx, p⟩ := hh
  unfold unO at p
  split at p
  · split at p
    · rename_i hc
      subst hc
      obtain ⟨C, fa, fd, ps, h1, h2, h3, h4⟩ := t.meth f _ _ 1 h
      have rx0 := rx
      cases rx with
      | obj g1 e1 l1 q1 =>
      have eC := h1.symm.trans g1
      cases eC
      cases rv
      obtain ⟨od, J1⟩ := obj_look (I := J.inf X.K) In (mask_ex _ _ e1)
      obtain ⟨mm, hF⟩ := In.fr
      refine PySem.W.ksp_neg hF In.ok.mod.kin J1 h2.at_ h2.fn ?_
      exact run_m (m := "__neg__") (c := 0) t h3 h4 In (.cons rel_ref .nil) rfl sim (.cons rx0 .nil) p
    · exact p.elim
  · exact hg pins s σ H v ov Q In rv ⟨x, S, M, sim, rx, p⟩
theorem tr_own (t : Cok J X w F Fi k) {f c : Nat} (h : J.sg.mt f = some (c, ("__bool__" : Str), 1)) : TruR X (rdTru (J.inf X.K) (truO F c f)) := by
  intro pins s σ H v ov Q In rv hh
  obtain ⟨x, S, M, sim, rx, p⟩ := hh
  unfold truO at p
  split at p
  · split at p
    · rename_i hc
      subst hc
      obtain ⟨C, fa, fd, ps, h1, h2, h3, h4⟩ := t.meth f _ _ 1 h
      have rx0 := rx
      cases rx with
      | obj g1 e1 l1 q1 =>
      have eC := h1.symm.trans g1
      cases eC
      cases rv
      obtain ⟨od, J1⟩ := obj_look (I := J.inf X.K) In (mask_ex _ _ e1)
      obtain ⟨mm, hF⟩ := In.fr
      refine PySem.W.truthy_K hF In.ok.mod.kin J1 h2.at_ h2.fn ?_
      refine wpAny_mono (run_m (m := "__bool__") (c := 0) (Q := fun v H' => ∃ b, v = .bl b ∧ Q b H') t h3 h4 In (.cons rel_ref .nil) rfl sim (.cons rx0 .nil) ?_) (fun r s' z => ?_) fun _ _ z => z
      · split at p
        · rename_i b S' he
          rw [he]
          intro v H' M' l' s' rv'
          cases rv'
          exact ⟨_, rfl, p _ H' M' l' s' rfl⟩
        · exact p.elim
      · obtain ⟨v, H', I', rv', b, rfl, q⟩ := z
        cases rv'
        exact ⟨H', I', q⟩
    · exact p.elim
  · exact tru_plain (I := J.inf X.K) In rv sim rx p
end
end Py

/-! deep equality of plain data; in, not in -/
namespace Py
open PySem PySem.Spec PyProof.Rows L2
mutual
def D.py : D → Option PyData
  | .non => some .none
  | .bl b => some (.bool b)
  | .int i => some (.int i)
  | .str x => some (.str x)
  | .tup xs => (D.pyL xs).map .tuple
  | .lst xs => (D.pyL xs).map .list
  | .lsx xs => (D.pyL xs).map .list
  | .obj _ _ => none
  | .dK _ => none
  | .dT _ => none
def D.pyL : List D → Option (List PyData)
  | [] => some []
  | x :: xs => match D.py x, D.pyL xs with
    | some a, some b => some (a :: b)
    | _, _ => none
end
mutual
theorem dp_of {I : Inf} {H H' : Hp} (ex : Ex H H') : ∀ {x : D} {v : V} {p : PyData}, Rep I H x v → D.py x = some p → Dp I.K H' v p
  | .non, _, _, r, e => by rw [D.py] at e; cases e; cases r; exact .non
  | .bl b, _, _, r, e => by rw [D.py] at e; cases e; cases r; exact .bl _
  | .int i, _, _, r, e => by rw [D.py] at e; cases e; cases r; exact .int _
  | .str x, _, _, r, e => by rw [D.py] at e; cases e; cases r; exact .str _
  | .tup xs, _, _, r, e => by
    rw [D.py] at e
    cases q : D.pyL xs with
    | none => rw [q] at e; cases e
    | some ps =>
      rw [q] at e
      cases e
      cases r with
      | tup h t => exact .tup (ex_t ex h) (dp_all ex t q)
  | .lst xs, _, _, r, e => by
    rw [D.py] at e
    cases q : D.pyL xs with
    | none => rw [q] at e; cases e
    | some ps =>
      rw [q] at e
      cases e
      cases r with
      | lst h t => exact .lst (.inl (.inl (ex _ _ h))) (dp_all ex t q)
  | .lsx xs, _, _, r, e => by
    rw [D.py] at e
    cases q : D.pyL xs with
    | none => rw [q] at e; cases e
    | some ps =>
      rw [q] at e
      cases e
      cases r with
      | lsx h t => exact .lst (ex_l ex h) (dp_all ex t q)
  | .obj c xs, _, _, r, e => by rw [D.py] at e; cases e
  | .dK k, _, _, r, e => by rw [D.py] at e; cases e
  | .dT k, _, _, r, e => by rw [D.py] at e; cases e
theorem dp_all {I : Inf} {H H' : Hp} (ex : Ex H H') : ∀ {xs : List D} {vs : List V} {ps : List PyData}, Reps I H xs vs → D.pyL xs = some ps → DpAll I.K H' vs ps
  | [], _, _, r, e => by rw [D.pyL] at e; cases e; cases r; exact .nil
  | x :: xs, _, _, r, e => by
    rw [D.pyL] at e
    cases r with
    | cons r1 rs =>
      split at e
      · rename_i a b ha hb
        cases e
        exact .cons (dp_of ex r1 ha) (dp_all ex rs hb)
      · cases e
end
/-- a value as plain data -/
def wpy : W → Sto → Option PyData
  | .d x, _ => D.py x
  | .c i, S => match S[i]? with
    | some (.lst ws) => (plainL ws).bind fun xs => (D.pyL xs).map .list
    | _ => none
  | .e _ _, _ => none
theorem wpy_dp {I : Inf} {S : Sto} {M : List Addr} {H : Hp} {x : W} {v : V} {p : PyData} (sim : Sim I S M H) (r : RepW I M (mask S M H) x v) (e : wpy x S = some p) : Dp I.K H v p := by
  cases x with
  | d x => exact dp_of mask_ex r e
  | e c x => cases e
  | c i =>
    have e : (match S[i]? with
      | some (.lst ws) => (plainL ws).bind fun xs => (D.pyL xs).map PyData.list
      | _ => none) = some p := e
    cases hc : S[i]? with
    | none => rw [hc] at e; cases e
    | some o =>
      rw [hc] at e
      cases o with
      | lst ws =>
        have e : ((plainL ws).bind fun xs => (D.pyL xs).map PyData.list) = some p := e
        cases q : plainL ws with
        | none => rw [q] at e; cases e
        | some xs =>
          rw [q] at e
          cases q2 : D.pyL xs with
          | none => simp [q2] at e
          | some ps =>
            have e : PyData.list ps = p := by simpa [q2] using e
            subst e
            obtain ⟨a, ea, rfl⟩ := r
            obtain ⟨vs, ho, t⟩ := sim.cell _ _ a hc ea
            exact .lst (.inl (.inl ho)) (dp_all mask_ex (plainL_rep t q) q2)
      | dead => cases e
      | ins c ws => cases e
      | dK k => cases e
      | dT k => cases e
def shp (p : PyData) : Bool := SeqAt.shaped p
def opEqD (x y : W) (S : Sto) : R W := match wpy x S, wpy y S with
  | some p, some q => if shp p = true ∧ shp q = true then .ok (.d (.bl (PyData.eqv p q))) S else .bad
  | _, _ => .bad
def opNeD (x y : W) (S : Sto) : R W := match wpy x S, wpy y S with
  | some p, some q => if shp p = true ∧ shp q = true then .ok (.d (.bl (!PyData.eqv p q))) S else .bad
  | _, _ => .bad
theorem o_eqD {X : Cx} {I : Inf} (hu : X.A.units + 64 < cLine) : OpR X (compareOp .Eq) (rdOp ⟨X.K, I.G, I.fl, I.X, I.ex⟩ opEqD) := by
  intro pins s σ H v u ov ou Q In rv ru hh
  obtain ⟨x, y, S, M, sim, rx, ry, p⟩ := hh
  unfold opEqD at p
  split at p
  · rename_i a b ha hb
    split at p
    · rename_i hs
      exact op_eqD hu pins s σ H v u ov ou Q In rv ru ⟨a, b, wpy_dp sim rx ha, wpy_dp sim ry hb, hs.1, hs.2, p.here sim (.bl _)⟩
    · exact p.elim
  · exact p.elim
theorem o_neD {X : Cx} {I : Inf} (hu : X.A.units + 64 < cLine) : OpR X (compareOp .NotEq) (rdOp ⟨X.K, I.G, I.fl, I.X, I.ex⟩ opNeD) := by
  intro pins s σ H v u ov ou Q In rv ru hh
  obtain ⟨x, y, S, M, sim, rx, ry, p⟩ := hh
  unfold opNeD at p
  split at p
  · rename_i a b ha hb
    split at p
    · rename_i hs
      exact op_neD hu pins s σ H v u ov ou Q In rv ru ⟨a, b, wpy_dp sim rx ha, wpy_dp sim ry hb, hs.1, hs.2, p.here sim (.bl _)⟩
    · exact p.elim
  · exact p.elim
def opInD (neg : Bool) (x y : W) (S : Sto) : R W := match wpy x S, wpy y S with
  | some p, some (.list qs) => if shp p = true ∧ shp (.list qs) = true then .ok (.d (.bl (if neg then !(qs.any fun z => PyData.eqv z p) else qs.any fun z => PyData.eqv z p))) S else .bad
  | _, _ => .bad
theorem o_inD {X : Cx} {I : Inf} (hu : X.A.units + 65 < cLine) : OpR X (compareOp .In) (rdOp ⟨X.K, I.G, I.fl, I.X, I.ex⟩ (opInD false)) := by
  intro pins s σ H v u ov ou Q In rv ru hh
  obtain ⟨x, y, S, M, sim, rx, ry, p⟩ := hh
  unfold opInD at p
  split at p
  · rename_i a b ha hb
    split at p
    · rename_i hs
      exact op_inD hu pins s σ H v u ov ou Q In rv ru ⟨a, b, wpy_dp sim rx ha, wpy_dp sim ry hb, hs.1, hs.2, p.here sim (.bl _)⟩
    · exact p.elim
  · exact p.elim
theorem o_notInD {X : Cx} {I : Inf} (hu : X.A.units + 65 < cLine) : OpR X (compareOp .NotIn) (rdOp ⟨X.K, I.G, I.fl, I.X, I.ex⟩ (opInD true)) := by
  intro pins s σ H v u ov ou Q In rv ru hh
  obtain ⟨x, y, S, M, sim, rx, ry, p⟩ := hh
  unfold opInD at p
  split at p
  · rename_i a b ha hb
    split at p
    · rename_i hs
      exact op_notInD hu pins s σ H v u ov ou Q In rv ru ⟨a, b, wpy_dp sim rx ha, wpy_dp sim ry hb, hs.1, hs.2, p.here sim (.bl _)⟩
    · exact p.elim
  · exact p.elim
theorem units65 {k : Nat} {A : Around} (r : Room k A) : A.units + 65 < cLine := by have := r.un; omega
theorem units64 {k : Nat} {A : Around} (r : Room k A) : A.units + 64 < cLine := by have := r.un; omega
/-- == and != of data: scalars, else deep -/
def opEqG (x y : W) (S : Sto) : R W := match x, y with
  | .d a, .d b => match eqS a b with
    | some r => .ok (.d (.bl r)) S
    | none => opEqD x y S
  | _, _ => opEqD x y S
def opNeG (x y : W) (S : Sto) : R W := match x, y with
  | .d a, .d b => match eqS a b with
    | some r => .ok (.d (.bl (!r))) S
    | none => opNeD x y S
  | _, _ => opNeD x y S
theorem o_eqG {X : Cx} {I : Inf} (hu : X.A.units + 64 < cLine) : OpR X (compareOp .Eq) (rdOp ⟨X.K, I.G, I.fl, I.X, I.ex⟩ opEqG) := by
  intro pins s σ H v u ov ou Q In rv ru hh
  obtain ⟨x, y, S, M, sim, rx, ry, p⟩ := hh
  cases x with
  | c i => exact o_eqD (I := I) hu pins s σ H v u ov ou Q In rv ru ⟨_, y, S, M, sim, rx, ry, p⟩
  | e _ _ => exact o_eqD (I := I) hu pins s σ H v u ov ou Q In rv ru ⟨_, y, S, M, sim, rx, ry, p⟩
  | d a =>
    cases y with
    | c i => exact o_eqD (I := I) hu pins s σ H v u ov ou Q In rv ru ⟨_, _, S, M, sim, rx, ry, p⟩
    | e _ _ => exact o_eqD (I := I) hu pins s σ H v u ov ou Q In rv ru ⟨_, _, S, M, sim, rx, ry, p⟩
    | d b =>
      have p : EndR ⟨X.K, I.G, I.fl, I.X, I.ex⟩ S M H (RepW ⟨X.K, I.G, I.fl, I.X, I.ex⟩) Q E0 (match eqS a b with
        | some r => .ok (.d (.bl r)) S
        | none => opEqD (.d a) (.d b) S) := p
      cases q : eqS a b with
      | none =>
        rw [q] at p
        exact o_eqD (I := I) hu pins s σ H v u ov ou Q In rv ru ⟨_, _, S, M, sim, rx, ry, p⟩
      | some r =>
        rw [q] at p
        refine o_eq (I := ⟨X.K, I.G, I.fl, I.X, I.ex⟩) pins s σ H v u ov ou Q In rv ru ⟨.d a, .d b, S, M, sim, rx, ry, ?_⟩
        have e : opEqS (.d a) (.d b) S = (.ok (W.d (.bl r)) S : R W) := by simp only [opEqS, q]
        rw [e]
        exact p
theorem o_neG {X : Cx} {I : Inf} (hu : X.A.units + 64 < cLine) : OpR X (compareOp .NotEq) (rdOp ⟨X.K, I.G, I.fl, I.X, I.ex⟩ opNeG) := by
  intro pins s σ H v u ov ou Q In rv ru hh
  obtain ⟨x, y, S, M, sim, rx, ry, p⟩ := hh
  cases x with
  | c i => exact o_neD (I := I) hu pins s σ H v u ov ou Q In rv ru ⟨_, y, S, M, sim, rx, ry, p⟩
  | e _ _ => exact o_neD (I := I) hu pins s σ H v u ov ou Q In rv ru ⟨_, y, S, M, sim, rx, ry, p⟩
  | d a =>
    cases y with
    | c i => exact o_neD (I := I) hu pins s σ H v u ov ou Q In rv ru ⟨_, _, S, M, sim, rx, ry, p⟩
    | e _ _ => exact o_neD (I := I) hu pins s σ H v u ov ou Q In rv ru ⟨_, _, S, M, sim, rx, ry, p⟩
    | d b =>
      have p : EndR ⟨X.K, I.G, I.fl, I.X, I.ex⟩ S M H (RepW ⟨X.K, I.G, I.fl, I.X, I.ex⟩) Q E0 (match eqS a b with
        | some r => .ok (.d (.bl (!r))) S
        | none => opNeD (.d a) (.d b) S) := p
      cases q : eqS a b with
      | none =>
        rw [q] at p
        exact o_neD (I := I) hu pins s σ H v u ov ou Q In rv ru ⟨_, _, S, M, sim, rx, ry, p⟩
      | some r =>
        rw [q] at p
        refine o_ne (I := ⟨X.K, I.G, I.fl, I.X, I.ex⟩) pins s σ H v u ov ou Q In rv ru ⟨.d a, .d b, S, M, sim, rx, ry, ?_⟩
        have e : opNeS (.d a) (.d b) S = (.ok (W.d (.bl (!r))) S : R W) := by simp only [opNeS, q]
        rw [e]
        exact p
end Py

/-! Py9: statements. -/
namespace Py
open PySem PySem.Spec PyProof.Rows L2
@[simp] def bindS {α : Type} (r : R α) (e : Env) (k : α → Sto → RS) : RS := match r with
  | .ok a S => k a S
  | .exc c x S => .exc c x e S
  | .bad => .bad
@[simp] def sPass : DS := fun e S => .nx e S
@[simp] def sSeq (a b : DS) : DS := fun e S => match a e S with
  | .nx e1 S1 => b e1 S1
  | r => r
@[simp] def sExpr (a : DE) : DS := fun e S => bindS (a e S) e fun _ S1 => .nx e S1
@[simp] def sRet (a : DE) : DS := fun e S => bindS (a e S) e fun w S1 => .rt w S1
@[simp] def sRetN : DS := fun _ S => .rt (.d .non) S
@[simp] def sIf (t : DT) (a b : DS) : DS := fun e S => bindS (t e S) e fun c S1 => if c = true then a e S1 else b e S1
@[simp] def sBreak : DS := fun e S => .bk e S
@[simp] def sCont : DS := fun e S => .ct e S
@[simp] def sNever : DS := fun _ _ => .bad
/-! targets -/
abbrev GT := W → Env → Option Env
@[simp] def gNm (i : Nat) : GT := fun w e => some (e.set i (some w))
@[simp] def gNil : List W → Env → Option Env
  | [], e => some e
  | _, _ => none
@[simp] def gCons (g : GT) (gs : List W → Env → Option Env) : List W → Env → Option Env
  | w :: ws, e => match g w e with
    | some e1 => gs ws e1
    | none => none
  | _, _ => none
@[simp] def gTp (gs : List W → Env → Option Env) : GT := fun w e => match w with
  | .d (.tup xs) => gs (xs.map W.d) e
  | _ => none
@[simp] def sAsg (a : DE) (g : GT) : DS := fun e S => bindS (a e S) e fun w S1 => match g w e with
  | some e1 => .nx e1 S1
  | none => .bad
@[simp] def sPar (i j : Nat) (a b : DE) : DS := fun e S => bindS (a e S) e fun x S1 => bindS (b e S1) e fun y S2 => .nx ((e.set i (some x)).set j (some y)) S2
/-- x op= e -/
@[simp] def sAug (i : Nat) (f : W → W → Sto → R W) (a : DE) : DS := fun e S => match e[i]? with
  | some (some x) => bindS (a e S) e fun y S1 => bindS (f x y S1).ne e fun z S2 => .nx (e.set i (some z)) S2
  | _ => .bad
def W.lowB (n : Nat) : W → Bool
  | .d _ => true
  | .c j => Nat.blt j n
  | .e _ _ => true
theorem W.lowB_of {n : Nat} {w : W} (h : w.lowB n = true) : w.low n := by
  cases w with
  | d x => trivial
  | c j => exact Nat.lt_of_lt_of_le (Nat.lt_succ_self _) (Nat.le_of_ble_eq_true h)
  | e c x => trivial
@[simp] theorem W.lowB_d (n : Nat) (x : D) : (W.d x).lowB n = true := rfl
/-- o[i] = v -/
@[simp] def setIx (o i v : W) (S : Sto) : Option Sto := match o, i with
  | .c k, .d (.int j) => match S[k]? with
    | some (.lst ws) => match ixN ws.length j with
      | some p => if v.lowB k = true then some (S.set k (.lst (ws.set p v))) else none
      | none => none
    | _ => none
  | _, _ => none
@[simp] def sSub (v o i : DE) : DS := fun e S => bindS (v e S) e fun x S1 => bindS (o e S1) e fun y S2 => bindS (i e S2) e fun z S3 => match setIx y z x S3 with
  | some S4 => .nx e S4
  | none => .bad
/-- o.f = v, f the i-th field of the class c -/
@[simp] def setAt (c i : Nat) (o v : W) (S : Sto) : Option Sto := match o with
  | .c k => match S[k]? with
    | some (.ins c' ws) => if c' = c ∧ v.lowB k = true then (if i < ws.length then some (S.set k (.ins c (ws.set i v))) else if i = ws.length then some (S.set k (.ins c (ws ++ [v]))) else none) else none
    | _ => none
  | _ => none
@[simp] def sFldD (c i : Nat) (v o : DE) : DS := fun e S => bindS (v e S) e fun x S1 => bindS (o e S1) e fun y S2 => match setAt c i y x S2 with
  | some S3 => .nx e S3
  | none => .bad
/-- o.append(v) as a statement -/
@[simp] def app (o v : W) (S : Sto) : Option Sto := match o with
  | .c k => match S[k]? with
    | some (.lst ws) => if v.lowB k = true ∧ ws.length < sizeLine then some (S.set k (.lst (ws ++ [v]))) else none
    | _ => none
  | _ => none
/-- a list that is a cell -/
@[simp] def isLc : W → Sto → Bool
  | .c i, S => match S[i]? with
    | some (.lst _) => true
    | _ => false
  | _, _ => false
@[simp] def dApp (o v : DE) : DE := fun e S => (o e S).bind fun x S1 => if isLc x S1 = true then ((v e S1).bind fun y S2 => match app x y S2 with
  | some S3 => .ok (.d .non) S3
  | none => .bad) else .bad
/-! loops -/
@[simp] def uns : List Nat → Env → Env
  | [], e => e
  | i :: l, e => (uns l e).set i none
def whileL (ks : List Nat) (t : DT) (b : DS) : Nat → Env → Sto → RS
  | 0, _, _ => .bad
  | n + 1, e, S => bindS (t (uns ks e) S) (uns ks e) fun c S1 => if c = true then (match b (uns ks e) S1 with
    | .nx e2 S2 => whileL ks t b n e2 S2
    | .ct e2 S2 => whileL ks t b n e2 S2
    | .bk e2 S2 => .nx (uns ks e2) S2
    | r => r) else .nx (uns ks e) S1
def sWhile (n : Nat) (ks : List Nat) (t : DT) (b : DS) : DS := fun e S => whileL ks t b n e S
open Classical in
noncomputable def forL (ks : List Nat) (g : GT) (b : DS) (gd : Sto → Prop) : List W → Env → Sto → RS
  | [], e, S => if gd S then .nx (uns ks e) S else .bad
  | x :: xs, e, S => if gd S then (match g x (uns ks e) with
    | none => .bad
    | some e1 => match b e1 S with
      | .nx e2 S2 => forL ks g b gd xs e2 S2
      | .ct e2 S2 => forL ks g b gd xs e2 S2
      | .bk e2 S2 => .nx (uns ks e2) S2
      | r => r) else .bad
/-- what a for walks: the items, and what must stay -/
abbrev DI := Env → Sto → R (List W × (Sto → Prop))
noncomputable def sFor (ks : List Nat) (g : GT) (i : DI) (b : DS) : DS := fun e S => bindS (i e S) e fun p S1 => forL ks g b p.2 p.1 e S1
open Classical in
noncomputable def compL (g : GT) (t : DT) (el : DE) (gd : Sto → Prop) (e : Env) : List W → Sto → R (List W)
  | [], S => if gd S then .ok [] S else .bad
  | x :: xs, S => if gd S then (match g x e with
    | none => .bad
    | some e1 => (t e1 S).ne.bind fun c S1 => if c = true then ((el e1 S1).ne.bind fun y S2 => (compL g t el gd e xs S2).bind fun ys S3 => .ok (y :: ys) S3) else compL g t el gd e xs S1) else .bad
@[simp] def tYesD : DT := fun _ S => .ok true S
/-- [el for g in i if t], plain data; own: the slots of its names -/
noncomputable def dComp (own : List Nat) (g : GT) (i : DI) (t : DT) (el : DE) : DE := fun e S => (i e S).bind fun p S1 => (compL g t el p.2 (uns own e) p.1 S1).bind fun ws S2 => if ws.length ≤ 16777216 then (match plainL ws with
  | some xs => .ok (.d (.lst xs)) S2
  | none => .bad) else .bad
/-- .. a cell -/
noncomputable def dCompC (own : List Nat) (g : GT) (i : DI) (t : DT) (el : DE) : DE := fun e S => (i e S).bind fun p S1 => (compL g t el p.2 (uns own e) p.1 S1).bind fun ws S2 => if ws.length ≤ 16777216 then .ok (.c S2.length) (S2 ++ [.lst ws]) else .bad
section
variable {J : Jn} {X : Cx} {I : Inf} {w : WX} {F Fi : FnTab} {k : Nat} {a b c e o : Expr} {es rest : List Expr} {da db dc d_o : DE} {dr : DA} {ta : DT} {pos p p2 : Pos} {st : Stmt} {sts sts' : List Stmt} {ds dt : DS}
theorem EndS.wk {S : Sto} {M : List Addr} {H : Hp} {D D' : Ends} {r : RS} (h : EndS I S M H D w r) (h1 : D.nx = D'.nx) (h2 : D.rt = D'.rt) (h3 : D.bk = D'.bk) (h4 : D.ct = D'.ct) : EndS I S M H D' w r := by
  cases D
  cases D'
  simp only at h1 h2 h3 h4
  subst h1 h2 h3 h4
  exact h
theorem ss_nil : PSs X [] (rdS I w sPass) := PSs_imp pss_nil fun D σ H ⟨e, S, M, s, sl, p⟩ => p σ H M Le.refl s sl
theorem ss_one (h : PS X st (rdS I w ds)) : PSs X [st] (rdS I w ds) := pss_one h
theorem ss_cons (h1 : PS X st (rdS I w ds)) (h2 : PSs X sts (rdS I w dt)) : PSs X (st :: sts) (rdS I w (sSeq ds dt)) := PSs_imp (pss_cons h1 h2) fun D σ H ⟨e, S, M, s, sl, p⟩ => by
  refine ⟨e, S, M, s, sl, ?_⟩
  unfold sSeq at p
  generalize ds e S = r at p ⊢
  cases r with
  | nx e1 S1 => exact fun σ' H' M' l' s' sl' => ⟨e1, S1, M', s', sl', p.up l'⟩
  | bk e1 S1 => exact p
  | ct e1 S1 => exact p
  | rt w S1 => exact p
  | exc c x e1 S1 => exact p
  | bad => exact p
/-- an expression, then a statement's end -/
theorem rdS_at {D : Ends} {σ : L2.St} {env : Env} {S : Sto} {M : List Addr} {H : Hp} {f : W → Sto → RS} {P : V → Hp → Prop} (s : Sim I S M H) (sl : Slots I M (mask S M H) env σ) (p : EndS I S M H D w (bindS (da env S) env f))
    (k : ∀ (x : W) (v : V) (S1 : Sto) (M1 : List Addr) (H1 : Hp), Le S M H S1 M1 H1 → Sim I S1 M1 H1 → Slots I M1 (mask S1 M1 H1) env σ → RepW I M1 (mask S1 M1 H1) x v → EndS I S1 M1 H1 D w (f x S1) → P v H1) : rdE I w da σ H P := by
  refine ⟨env, S, M, s, sl, ?_⟩
  generalize da env S = r at p ⊢
  cases r with
  | ok x S1 => exact fun v H' M' l' s' r' => k x v S1 M' H' l' s' (sl.mono l') r' (p.up l')
  | exc c x S1 => exact fun cls dd H' M' l' s' r' => p cls dd σ H' M' l' s' (sl.mono l') r'
  | bad => exact p
theorem rdS_one {D : Ends} {σ : L2.St} {H : Hp} {f : Env → W → Sto → RS} {P : V → Hp → Prop}
    (h : ∃ (env : Env) (S : Sto) (M : List Addr), Sim I S M H ∧ Slots I M (mask S M H) env σ ∧ EndS I S M H D w (bindS (da env S) env fun x S1 => f env x S1))
    (k : ∀ (x : W) (v : V) (env : Env) (S : Sto) (M : List Addr) (H : Hp), Sim I S M H → Slots I M (mask S M H) env σ → RepW I M (mask S M H) x v → EndS I S M H D w (f env x S) → P v H) :
    rdE I w da σ H P := by
  obtain ⟨e, S, M, s, sl, p⟩ := h
  refine ⟨e, S, M, s, sl, ?_⟩
  generalize da e S = r at p ⊢
  cases r with
  | ok x S1 => exact fun v H' M' l' s' r' => k x v e S1 M' H' s' (sl.mono l') r' (p.up l')
  | exc c x S1 => exact fun cls dd H' M' l' s' r' => p cls dd σ H' M' l' s' (sl.mono l') r'
  | bad => exact p
theorem rdS_test {D : Ends} {σ : L2.St} {H : Hp} {f : Env → Bool → Sto → RS} {P : Bool → Hp → Prop}
    (h : ∃ (env : Env) (S : Sto) (M : List Addr), Sim I S M H ∧ Slots I M (mask S M H) env σ ∧ EndS I S M H D w (bindS (ta env S) env fun x S1 => f env x S1))
    (k : ∀ (x : Bool) (env : Env) (S : Sto) (M : List Addr) (H : Hp), Sim I S M H → Slots I M (mask S M H) env σ → EndS I S M H D w (f env x S) → P x H) :
    rdT I w ta σ H P := by
  obtain ⟨e, S, M, s, sl, p⟩ := h
  refine ⟨e, S, M, s, sl, ?_⟩
  generalize ta e S = r at p ⊢
  cases r with
  | ok x S1 => exact fun v H' M' l' s' r' => k v e S1 M' H' s' (sl.mono l') (by subst r'; exact p.up l')
  | exc c x S1 => exact fun cls dd H' M' l' s' r' => p cls dd σ H' M' l' s' (sl.mono l') r'
  | bad => exact p
theorem ss_expr (h : PE X e (rdE I w da)) (hs : swapsWith e none pos.line X.env = pure false := by rfl) : PS X (.Expr e pos) (rdS I w (sExpr da)) := PS_imp (ps_expr h hs) fun D σ H q =>
  rdS_one (f := fun e _ S1 => .nx e S1) q fun x v e S M H s sl r p => p σ H M Le.refl s sl
theorem ss_ret (h : PE X e (rdE I w da)) : PS X (.Return (some e) pos) (rdS I w (sRet da)) := PS_imp (ps_ret h) fun D σ H q =>
  rdS_one (f := fun _ x S1 => .rt x S1) q fun x v e S M H s sl r p => p v H M Le.refl s r
theorem ss_retN : PS X (.Return none pos) (rdS I w sRetN) := PS_imp ps_retN fun D σ H ⟨e, S, M, s, sl, p⟩ => p .non H M Le.refl s .non
theorem ss_pass : PS X (.Pass pos) (rdS I w sPass) := PS_imp ps_pass fun D σ H ⟨e, S, M, s, sl, p⟩ => p σ H M Le.refl s sl
theorem ss_break : PS X (.Break pos) (rdS I w sBreak) := PS_imp ps_break fun D σ H ⟨e, S, M, s, sl, p⟩ => p σ H M Le.refl s sl
theorem ss_cont : PS X (.Continue pos) (rdS I w sCont) := PS_imp ps_continue fun D σ H ⟨e, S, M, s, sl, p⟩ => p σ H M Le.refl s sl
theorem ss_never : PS X st (rdS I w sNever) := PS_imp ps_never fun D σ H ⟨e, S, M, s, sl, p⟩ => p
theorem ss_if (hc : PT X c (rdT I w ta)) (h1 : PSs X sts (rdS I w ds)) (h2 : PSs X sts' (rdS I w dt)) : PS X (.If c sts sts' pos) (rdS I w (sIf ta ds dt)) := PS_imp (ps_if hc h1 h2) fun D σ H q =>
  rdS_test (f := fun e c S1 => if c = true then ds e S1 else dt e S1) q fun x e S M H s sl p => by
    split at p
    · rename_i h
      rw [if_pos h]
      exact ⟨e, S, M, s, sl, p⟩
    · rename_i h
      rw [if_neg h]
      exact ⟨e, S, M, s, sl, p⟩
/-! targets -/
def rdG (I : Inf) (g : GT) (vs : List Nat) : TG := fun v σ H Q => ∃ (x : W) (env : Env) (S : Sto) (M : List Addr), Sim I S M H ∧ Slots I M (mask S M H) env σ ∧ RepW I M (mask S M H) x v ∧ ∃ env', g x env = some env' ∧
  ∀ σ', Slots I M (mask S M H) env' σ' → (∀ own : List Nat, (∀ i ∈ vs, i ∈ own) → wipe σ' own = wipe σ own) → Q σ' H
def rdGs (I : Inf) (g : List W → Env → Option Env) (vs : List Nat) : TGs := fun us σ H Q => ∃ (xs : List W) (env : Env) (S : Sto) (M : List Addr), Sim I S M H ∧ Slots I M (mask S M H) env σ ∧ RepWs I M (mask S M H) xs us ∧ ∃ env', g xs env = some env' ∧
  ∀ σ', Slots I M (mask S M H) env' σ' → (∀ own : List Nat, (∀ i ∈ vs, i ∈ own) → wipe σ' own = wipe σ own) → Q σ' H
theorem PG_imp {e : Expr} {t t' : TG} (h : PG X e t) (i : ∀ v σ H Q, t' v σ H Q → t v σ H Q) : PG X e t' := ⟨fun pins s σ H v u Q I r q => h.run pins s σ H v u Q I r (i v σ H Q q)⟩
theorem PGs_imp {e : List Expr} {t t' : TGs} (h : PGs X e t) (i : ∀ v σ H Q, t' v σ H Q → t v σ H Q) : PGs X e t' := ⟨fun pins s σ H v u Q I r q => h.run pins s σ H v u Q I r (i v σ H Q q)⟩
theorem wipe_set {σ : L2.St} {i : Nat} {x : Option V} : ∀ {own : List Nat}, i ∈ own → wipe (σ.set i x) own = wipe σ own
  | j :: own, h => by
    show (wipe (σ.set i x) own).set j none = (wipe σ own).set j none
    by_cases hi : i ∈ own
    · rw [wipe_set hi]
    · have : i = j := by
        rcases List.mem_cons.mp h with h | h
        · exact h
        · exact absurd h hi
      subst this
      refine List.ext_getElem? fun m => ?_
      rw [List.getElem?_set, List.getElem?_set]
      by_cases hm : i = m
      · subst hm
        rw [if_pos rfl, if_pos rfl, wipe_length, wipe_length, List.length_set]
      · rw [if_neg hm, if_neg hm]
        have : ∀ {τ τ' : L2.St} {l : List Nat}, τ[m]? = τ'[m]? → τ.length = τ'.length → (wipe τ l)[m]? = (wipe τ' l)[m]? := fun {τ τ' l} h1 h2 => by
          induction l with
          | nil => exact h1
          | cons q l ih =>
            show ((wipe τ l).set q none)[m]? = ((wipe τ' l).set q none)[m]?
            rw [List.getElem?_set, List.getElem?_set]
            by_cases z : q = m
            · rw [if_pos z, if_pos z, wipe_length, wipe_length, h2]
            · rw [if_neg z, if_neg z]
              exact ih
        exact this (by rw [List.getElem?_set_ne hm]) (by simp)
theorem sg_nm {i : Nat} {x : Str} (hN : X.N.Nodup) (hi : X.N[i]? = some x := by rfl) (hx : Loc X.env.scope x := by first | exact Or.inl rfl | exact Or.inr rfl) (hf : X.fn x = true ∨ X.env.scope.names.lookup x = some .local := by first | exact .inl rfl | exact .inr rfl | assumption) : PG X (.Name x pos) (rdG I (gNm i) [i]) :=
  PG_imp (pg_name hN hi hx hf) fun v σ H Q ⟨x, env, S, M, s, sl, r, env', he, k⟩ => by
    cases he
    exact k _ (sl.set r) fun own h => wipe_set (h i (by simp))
theorem sgs_nil : PGs X [] (rdGs I gNil []) := PGs_imp pgs_nil fun v σ H Q ⟨x, env, S, M, s, sl, r, env', he, k⟩ => by
  cases r with
  | nil =>
    cases he
    exact ⟨rfl, k _ sl fun _ _ => rfl⟩
  | cons r t => cases he
theorem sgs_cons {g : GT} {gs : List W → Env → Option Env} {vs us : List Nat} (h1 : PG X e (rdG I g vs)) (h2 : PGs X es (rdGs I gs us)) (hs : (assignEach (e :: es) X.env).map (·.2) = assign e X.env :: (assignEach es X.env).map (·.2) := by rfl) : PGs X (e :: es) (rdGs I (gCons g gs) (vs ++ us)) :=
  PGs_imp (pgs_cons h1 h2 hs) fun v σ H Q ⟨x, env, S, M, s, sl, r, env', he, k⟩ => by
    cases r with
    | nil => cases he
    | cons r t =>
      dsimp only [gCons] at he
      split at he
      · rename_i e1 h1'
        refine ⟨_, _, rfl, _, env, S, M, s, sl, r, e1, h1', fun σ1 sl1 w1 => ⟨_, e1, S, M, s, sl1, t, env', he, fun σ2 sl2 w2 => k σ2 sl2 fun own h => ?_⟩⟩
        rw [w2 own fun i m => h i (List.mem_append_right _ m), w1 own fun i m => h i (List.mem_append_left _ m)]
      · cases he
theorem sg_tp {gs : List W → Env → Option Env} {vs : List Nat} {kk n : Nat} (hc : X.calm = true) (h : PGs X es (rdGs ⟨X.K, I.G, I.fl, I.X, I.ex⟩ gs vs)) (hl : ∀ xs e e', gs xs e = some e' → xs.length = n)
    (hn : (assignEach es X.env).length = n := by rfl) (hst : (assignEach es X.env).findIdx? (·.1) = none := by rfl) : PG X (.Tuple es kk pos) (rdG ⟨X.K, I.G, I.fl, I.X, I.ex⟩ (gTp gs) vs) :=
  PG_imp (pg_tup hc h hn hst) fun v σ H Q ⟨x, env, S, M, s, sl, r, env', he, k⟩ => by
    unfold gTp at he
    split at he
    · cases r with
      | tup h2 r2 => exact ⟨_, _, rfl, ex_t mask_ex h2, by rw [← r2.len, ← hl _ _ _ he, List.length_map], _, env, S, M, s, sl, reps_map r2, env', he, k⟩
    · cases he
theorem gNil_len : ∀ (xs : List W) (e e' : Env), gNil xs e = some e' → xs.length = 0
  | [], _, _, _ => rfl
  | _ :: _, _, _, h => by cases h
theorem gCons_len {g : GT} {gs : List W → Env → Option Env} {n : Nat} (h : ∀ xs e e', gs xs e = some e' → xs.length = n) : ∀ (xs : List W) (e e' : Env), gCons g gs xs e = some e' → xs.length = n + 1
  | [], _, _, q => by cases q
  | x :: xs, e, e', q => by
    dsimp only [gCons] at q
    split at q
    · rw [List.length_cons, h _ _ _ q]
    · cases q
theorem ss_asg {tg : Expr} {g : GT} {vs : List Nat} (he : PE X e (rdE I w da)) (hg : PG X tg (rdG I g vs)) (hs : swapsWithSole [tg] e pos.line X.env = pure false := by rfl) (hw : swappedStores [tg] e X.env = pure none := by rfl)
    (h1 : (assignEach [tg] X.env).map (·.2) = [assign tg X.env] := by rfl) : PS X (.Assign [tg] e pos) (rdS I w (sAsg da g)) := PS_imp (ps_asg he hg hs hw h1) fun D σ H q =>
  rdS_one (f := fun e x S1 => match g x e with
  | some e1 => .nx e1 S1
  | none => .bad) q fun x v e S M H s sl r p => by
    split at p
    · exact ⟨x, e, S, M, s, sl, r, _, by assumption, fun σ' sl' _ => p σ' H M Le.refl s sl'⟩
    · exact p.elim
theorem ss_set {i : Nat} {x : Str} {pos' : Pos} (hN : X.N.Nodup) (he : PE X e (rdE I w da)) (hi : X.N[i]? = some x := by rfl) (hx : Loc X.env.scope x := by first | exact Or.inl rfl | exact Or.inr rfl) (hs : swapsWith e (some (.Name x pos')) pos.line X.env = pure false := by rfl)
    (hf : X.fn x = true ∨ X.env.scope.names.lookup x = some .local := by first | exact .inl rfl | exact .inr rfl | assumption) : PS X (.Assign [.Name x pos'] e pos) (rdS I w (sAsg da (gNm i))) := PS_imp (ps_set hN hi hx he hs hf) fun D σ H q =>
  rdS_one (f := fun e x S1 => .nx (e.set i (some x)) S1) q fun x v e S M H s sl r p => p _ H M Le.refl s (sl.set r)
theorem ss_par {i j : Nat} {x y : Str} {a b : Expr} {px py pt : Pos} {kt k2 pt2} (hc : X.calm = true) (hN : X.N.Nodup) (hij : i ≠ j) (ha : PE X a (rdE I w da)) (hb : PE X b (rdE I w db)) (hi : X.N[i]? = some x := by rfl) (hj : X.N[j]? = some y := by rfl)
    (hx : X.env.scope.names.lookup x = some .local := by rfl) (hy : X.env.scope.names.lookup y = some .local := by rfl)
    (hs1 : starEach [a, b] X.env = (false, eval a X.env) :: starEach [b] X.env := by rfl) (hs2 : starEach [b] X.env = (false, eval b X.env) :: starEach [] X.env := by rfl)
    (hw : swappedStores [.Tuple [.Name x px, .Name y py] kt pt] (.Tuple [a, b] k2 pt2) X.env = pure (some [x, y]) := by rfl)
    (hs : swapsWithSole [.Tuple [.Name x px, .Name y py] kt pt] (.Tuple [a, b] k2 pt2) pos.line X.env = pure false := by rfl) :
    PS X (.Assign [.Tuple [.Name x px, .Name y py] kt pt] (.Tuple [a, b] k2 pt2) pos) (rdS I w (sPar i j da db)) :=
  PS_imp (ps_par hc hN hi hj hij hx hy (pa_cons ha (pa_cons hb pa_nil hs2) hs1) hw hs) fun D σ H q =>
    rdS_one (f := fun e x S1 => bindS (db e S1) e fun y S2 => .nx ((e.set i (some x)).set j (some y)) S2) q fun x v e S M H s sl r p => by
      refine ⟨e, S, M, s, sl, ?_⟩
      generalize db e S = rr at p ⊢
      cases rr with
      | ok y S1 => exact fun u H' M' l' s' r' => ⟨v, u, rfl, p _ H' M' l' s' (((sl.mono l').set (r.mono l')).set r')⟩
      | exc c x S1 => exact fun cls dd H' M' l' s' r' => p cls dd σ H' M' l' s' (sl.mono l') r'
      | bad => exact p
theorem setIx_at {S S' : Sto} {M : List Addr} {H : Hp} {y z x : W} {vy vz v : V} {Q : Hp → Prop} (s : Sim I S M H) (ry : RepW I M (mask S M H) y vy) (rz : RepW I M (mask S M H) z vz) (rx : RepW I M (mask S M H) x v) (e : setIx y z x S = some S')
    (k : ∀ H', Le S M H S' M H' → Sim I S' M H' → Q H') : rSetL vy vz v H Q := by
  unfold setIx at e
  split at e
  · split at e
    · split at e
      · split at e
        · rename_i k' j _ ws hc _ q hq hlo
          cases e
          obtain ⟨a, ea, rfl⟩ := ry
          obtain ⟨vs, ho, q'⟩ := s.cell _ _ a hc ea
          cases rz
          have hl := Paired.length q'
          have lo : ∀ u ∈ ws.set q x, u.low k' := fun u m => by
            rcases List.mem_or_eq_of_mem_set m with m | m
            · exact s.low _ _ hc u m
            · subst m
              exact W.lowB_of hlo
          have pset : ∀ {as : List W} {bs : List V} (n : Nat), RepWs I M (mask S M H) as bs → RepWs I M (mask S M H) (as.set n x) (bs.set n v) := fun {as bs} n r => by
            induction r generalizing n with
            | nil => exact .nil
            | cons r t ih =>
              cases n with
              | zero => exact .cons rx t
              | succ n => exact .cons r (ih n)
          obtain ⟨s', l'⟩ := s.write (o := .lst (vs.set q v)) (c' := .lst (ws.set q x)) hc ea (by intro z; cases z) (by intro z; cases z) lo ⟨_, rfl, pset q q'⟩
          exact ⟨a, vs, _, q, rfl, rfl, ho, by rw [← hl]; exact hq, k _ l' s'⟩
        · cases e
      · cases e
    · cases e
  · cases e
theorem ss_sub {v o i : Expr} {dv d_i : DE} {tpos : Pos} (hv : PE X v (rdE I w dv)) (ho : PE X o (rdE I w d_o)) (hi : PE X i (rdE I w d_i))
    (hs : swapsWithSole [.Subscript o i tpos] v pos.line X.env = pure false := by rfl) (hw : swappedStores [.Subscript o i tpos] v X.env = pure none := by rfl)
    (h1 : (assignEach [.Subscript o i tpos] X.env).map (·.2) = [assign (.Subscript o i tpos) X.env] := by rfl)
    (ha : ∀ v, assign (.Subscript o i tpos) X.env v = (do
      let ov ← holding [v] (eval o X.env)
      let iv ← holding [v, ov] (eval i X.env)
      standAt tpos
      holding [v, ov, iv] (setItem ov iv v)
      release [v, ov, iv] []) := by intro _; rfl) : PS X (.Assign [.Subscript o i tpos] v pos) (rdS I w (sSub dv d_o d_i)) :=
  PS_imp (ps_asg hv (pg_sub ho hi set_list ha) hs hw h1) fun D σ H q => by
    obtain ⟨e, S, M, s, sl, p⟩ := q
    refine rdS_at s sl p fun x vx S1 M1 H1 l1 s1 sl1 r1 p1 => ?_
    refine rdS_at s1 sl1 p1 fun y vy S2 M2 H2 l2 s2 sl2 r2 p2 => ?_
    refine rdS_at s2 sl2 p2 fun z vz S3 M3 H3 l3 s3 sl3 r3 p3 => ?_
    split at p3
    · exact setIx_at s3 (r2.mono l3) r3 ((r1.mono l2).mono l3) (by assumption) fun H' l' s' => p3 σ H' M3 l' s' (sl3.mono l')
    · exact p3.elim
theorem setAt_at {S S' : Sto} {M : List Addr} {H : Hp} {y x : W} {vy v : V} {c i : Nat} {m : Str} {Q : Hp → Prop} (hm : (I.fl c)[i]? = some m) (hn : (I.fl c).Nodup) (hf : (I.fl c).length < 1000) (s : Sim I S M H) (ry : RepW I M (mask S M H) y vy) (rx : RepW I M (mask S M H) x v) (e : setAt c i y x S = some S')
    (k : ∀ H', Le S M H S' M H' → Sim I S' M H' → Q H') : ∃ a C dx fs, vy = .ref a ∧ I.G c = some C ∧ H a = some (.ins C dx fs) ∧ fs.length < 1000 ∧ Q (upd H a (.ins C dx (putF m v fs))) := by
  unfold setAt at e
  split at e
  · split at e
    · split at e
      · rename_i k' _ c' ws hc hh
        obtain ⟨rfl, hlo⟩ := hh
        obtain ⟨a, ea, rfl⟩ := ry
        obtain ⟨C, dx, vs, g, h, l, q⟩ := s.cell _ _ a hc ea
        have hl := Paired.length q
        have hi : i < (I.fl c').length := (List.getElem?_eq_some_iff.mp hm).1
        have put : ∀ {ks : List Str} {us : List V} {j : Nat}, ks.Nodup → ks[j]? = some m → j < us.length → putF m v (ks.zip us) = ks.zip (us.set j v) := fun {ks} => by
          induction ks with
          | nil => intro us j _ e _; simp at e
          | cons k0 ks ih =>
            intro us j nd e hj
            cases us with
            | nil => simp at hj
            | cons u us =>
              cases j with
              | zero =>
                simp at e
                subst e
                rw [List.zip_cons_cons]
                unfold putF
                rw [if_pos rfl]
                rfl
              | succ j =>
                simp at e
                rw [List.zip_cons_cons]
                unfold putF
                have hk : ¬ k0 = m := fun z => (List.nodup_cons.mp nd).1 (z ▸ List.mem_of_getElem? e)
                rw [if_neg hk, ih (List.nodup_cons.mp nd).2 e (by simpa using hj)]
                rfl
        have put2 : ∀ {ks : List Str} {us : List V}, ks.Nodup → ks[us.length]? = some m → putF m v (ks.zip us) = ks.zip (us ++ [v]) := fun {ks} => by
          induction ks with
          | nil => intro us _ e; simp at e
          | cons k0 ks ih =>
            intro us nd e
            cases us with
            | nil =>
              simp at e
              subst e
              cases ks <;> rfl
            | cons u us =>
              simp at e
              rw [List.zip_cons_cons]
              unfold putF
              have hk : ¬ k0 = m := fun z => (List.nodup_cons.mp nd).1 (z ▸ List.mem_of_getElem? e)
              rw [if_neg hk, ih (List.nodup_cons.mp nd).2 e]
              rfl
        have few : ((I.fl c').zip vs).length < 1000 := by rw [List.length_zip]; omega
        split at e
        · rename_i hlt
          cases e
          have lo : ∀ u ∈ ws.set i x, u.low k' := fun u m => by
            rcases List.mem_or_eq_of_mem_set m with m | m
            · exact s.low _ _ hc u m
            · subst m
              exact W.lowB_of hlo
          have pset : ∀ {as : List W} {bs : List V} (n : Nat), RepWs I M (mask S M H) as bs → RepWs I M (mask S M H) (as.set n x) (bs.set n v) := fun {as bs} n r => by
            induction r generalizing n with
            | nil => exact .nil
            | cons r t ih =>
              cases n with
              | zero => exact .cons rx t
              | succ n => exact .cons r (ih n)
          obtain ⟨s', l'⟩ := s.write (o := .ins C dx (putF m v ((I.fl c').zip vs))) (c' := .ins c' (ws.set i x)) hc ea (by intro z; cases z) (by intro z; cases z) lo ⟨C, dx, vs.set i v, g, by rw [put hn hm (by rw [← hl]; exact hlt)], by simpa using l, pset i q⟩
          exact ⟨a, C, dx, _, rfl, g, h, few, k _ l' s'⟩
        · split at e
          · rename_i heq
            cases e
            have lo : ∀ u ∈ ws ++ [x], u.low k' := fun u m => by
              rcases List.mem_append.mp m with m | m
              · exact s.low _ _ hc u m
              · have : u = x := by simpa using m
                subst this
                exact W.lowB_of hlo
            obtain ⟨s', l'⟩ := s.write (o := .ins C dx (putF m v ((I.fl c').zip vs))) (c' := .ins c' (ws ++ [x])) hc ea (by intro z; cases z) (by intro z; cases z) lo ⟨C, dx, vs ++ [v], g, by rw [put2 hn (by rw [← hl, ← heq]; exact hm)], by
              rw [List.length_append, ← hl, ← heq]
              exact hi, RepWs.app q (.cons rx .nil)⟩
            exact ⟨a, C, dx, _, rfl, g, h, few, k _ l' s'⟩
          · cases e
      · cases e
    · cases e
  · cases e
theorem ss_fld {v : Expr} {dv : DE} {f : Str} {c i : Nat} {pos' : Pos} (t : Cok J X w F Fi k) (hm : (J.sg.fl c)[i]? = some f) (hn : (J.sg.fl c).Nodup) (hf : (J.sg.fl c).length < 1000) (ho : PE X o (rdE (J.inf X.K) w d_o)) (hv : PE X v (rdE (J.inf X.K) w dv)) (hs : swapsWith v (some (.Attribute o f pos')) pos.line X.env = pure false := by rfl) :
    PS X (.Assign [.Attribute o f pos'] v pos) (rdS (J.inf X.K) w (sFldD c i dv d_o)) := PS_imp (ps_fld ho hv hs) fun D σ H q => by
    obtain ⟨e, S, M, s, sl, p⟩ := q
    refine rdS_at s sl p fun x vx S1 M1 H1 l1 s1 sl1 r1 p1 => ?_
    refine rdS_at s1 sl1 p1 fun y vy S2 M2 H2 l2 s2 sl2 r2 p2 => ?_
    split at p2
    · obtain ⟨a, C, dx, fs, e1, g, e2, e3, e4⟩ := setAt_at (Q := D.nx σ) hm hn hf s2 r2 (r1.mono l2) (by assumption) fun H' l' s' => p2 σ H' M2 l' s' (sl2.mono l')
      exact ⟨a, C, dx, fs, e1, e2, t.cls c C g, t.nat c C f g (List.mem_of_getElem? hm), e3, e4⟩
    · exact p2.elim
theorem isLc_ty {I : Inf} {S : Sto} {M : List Addr} {H : Hp} {x : W} {v : V} (s : Sim I S M H) (r : RepW I M (mask S M H) x v) (h : isLc x S = true) : tyV I.K "list" v H := by
  unfold isLc at h
  split at h
  · split at h
    · obtain ⟨a, ea, rfl⟩ := r
      obtain ⟨vs, ho, q⟩ := s.cell _ _ a (by assumption) ea
      exact Or.inl ⟨rfl, _, Or.inl (Or.inl ho)⟩
    · cases h
  · cases h
theorem app_at {S S' : Sto} {M : List Addr} {H : Hp} {y x : W} {vy v : V} {Q : VK} (s : Sim I S M H) (ry : RepW I M (mask S M H) y vy) (rx : RepW I M (mask S M H) x v) (e : app y x S = some S')
    (k : ∀ H', Le S M H S' M H' → Sim I S' M H' → Q .non H') : rAppend vy [v] H Q := by
  unfold app at e
  split at e
  · split at e
    · split at e
      · rename_i k' _ ws hc hh
        cases e
        obtain ⟨a, ea, rfl⟩ := ry
        obtain ⟨vs, ho, q⟩ := s.cell _ _ a hc ea
        have lo : ∀ u ∈ ws ++ [x], u.low k' := fun u m => by
          rcases List.mem_append.mp m with m | m
          · exact s.low _ _ hc u m
          · have : u = x := by simpa using m
            subst this
            exact W.lowB_of hh.1
        obtain ⟨s', l'⟩ := s.write (o := .lst (vs ++ [v])) (c' := .lst (ws ++ [x])) hc ea (by intro z; cases z) (by intro z; cases z) lo ⟨_, rfl, RepWs.app q (.cons rx .nil)⟩
        exact ⟨a, vs, v, rfl, rfl, ho, by rw [← Paired.length q]; exact hh.2, k _ l' s'⟩
      · cases e
    · cases e
  · cases e
theorem sx_app {v : Expr} {dv : DE} {apos cpos : Pos} (ho : PE X o (rdE ⟨X.K, I.G, I.fl, I.X, I.ex⟩ w d_o)) (hv : PE X v (rdE ⟨X.K, I.G, I.fl, I.X, I.ex⟩ w dv)) (hbase : attributeBase o "append" X.env (eval o X.env) = eval o X.env := by rfl)
    (hs1 : starEach [v] X.env = (false, eval v X.env) :: starEach [] X.env := by rfl)
    (hfew : ((backTo cpos (starEach [v] X.env)).all (fun x => !x.1) && (backToKw cpos (keywordEach [] X.env)).all (fun x => x.1.isSome)
      && decide ([v].length + ([] : List Keyword).length + (if ([] : List Keyword).isEmpty then 0 else 1) < 30)) = true := by rfl)
    (hline : (apos.endLine == cpos.line) = true := by rfl) (hplain : (backTo cpos (starEach [] X.env)).any (·.1) = false := by rfl) :
    PE X (.Call (.Attribute o "append" apos) [v] [] cpos) (rdE ⟨X.K, I.G, I.fl, I.X, I.ex⟩ w (dApp d_o dv)) :=
  PE_imp (pe_bm PySem.F.plainAttrs_list PySem.F.slot_list_append PySem.F.type_list_append mt_append ho (pa_cons hv pa_nil hs1) hbase hfew hline hs1 hplain) fun σ H Q q => by
    obtain ⟨e, S, M, s, sl, p⟩ := q
    refine ⟨e, S, M, s, sl, (EndR.bind (rel1 := RepW ⟨X.K, I.G, I.fl, I.X, I.ex⟩) p).imp fun v1 H1 ⟨x, S1, M1, l1, s1, r1, p1⟩ => ?_⟩
    split at p1
    · rename_i hx
      refine ⟨isLc_ty s1 r1 hx, e, S1, M1, s1, sl.mono l1, (EndR.bind (rel1 := RepW ⟨X.K, I.G, I.fl, I.X, I.ex⟩) p1).imp fun v2 H2 ⟨y, S2, M2, l2, s2, r2, p2⟩ => ?_⟩
      split at p2
      · exact app_at s2 (r1.mono l2) r2 (by assumption) fun H' l' s' => p2 .non H' M2 l' s' .non
      · exact p2.elim
    · exact p1.elim
end
end Py

/-! Py10: loops, comprehensions, what they walk. -/
namespace Py
open PySem PySem.Spec PyProof.Rows L2
section
variable {J : Jn} {X : Cx} {I : Inf} {w : WX} {F Fi : FnTab} {k : Nat} {a b c e o tg iter elt : Expr} {es rest : List Expr} {da db dc d_o el : DE} {dr : DA} {ta : DT} {pos p p2 : Pos} {st : Stmt} {sts sts' : List Stmt} {ds dt : DS} {di : DI} {g : GT} {vs : List Nat}
theorem uns_slots {M : List Addr} {H : Hp} {env : Env} {σ : L2.St} (s : Slots I M H env σ) : ∀ ks : List Nat, Slots I M H (uns ks env) σ
  | [] => s
  | i :: l => (uns_slots s l).unset
theorem uns_wipe {M : List Addr} {H : Hp} {env : Env} {σ : L2.St} (s : Slots I M H env σ) : ∀ ks : List Nat, Slots I M H (uns ks env) (wipe σ ks)
  | [] => s
  | i :: l => by
    have h := uns_wipe s l
    refine ⟨by show ((uns l env).set i none).length = ((wipe σ l).set i none).length; simp [h.len], fun j u e => ?_⟩
    have e : ((uns l env).set i none)[j]? = some (some u) := e
    show ∃ v, ((wipe σ l).set i none)[j]? = some (some v) ∧ _
    rw [List.getElem?_set] at e ⊢
    by_cases q : i = j
    · rw [if_pos q] at e
      split at e
      · simp at e
      · cases e
    · rw [if_neg q] at e ⊢
      exact h.get j u e
/-- a while: the fuel is its measure -/
theorem ss_while {n : Nat} {ks : List Nat} (t : Cok J X w F Fi k) (hc : PT X c (rdT I w ta)) (hb : PSs X sts (rdS I w ds)) : PS X (.While c sts [] pos) (rdS I w (sWhile n ks ta ds)) :=
  PS_imp (ps_while t.po hc hb) fun D σ H ⟨env, S, M, s, sl, p⟩ => by
    refine ⟨fun m σ H => ∃ (env : Env) (S : Sto) (M : List Addr), Sim I S M H ∧ Slots I M (mask S M H) env σ ∧ EndS I S M H D w (whileL ks ta ds m env S), ⟨n, env, S, M, s, sl, p⟩, fun m σ H ⟨env, S, M, s, sl, p⟩ => ?_⟩
    cases m with
    | zero => exact p.elim
    | succ m =>
      unfold whileL at p
      refine ⟨uns ks env, S, M, s, uns_slots sl ks, ?_⟩
      generalize ta (uns ks env) S = r at p ⊢
      cases r with
      | bad => exact p
      | exc c x S1 => exact fun cls dd H' M' l' s' r' => p cls dd σ H' M' l' s' ((uns_slots sl ks).mono l') r'
      | ok c S1 =>
        intro b H1 M1 l1 s1 hb
        subst hb
        have p1 : EndS I S1 M1 H1 D w (if c = true then (match ds (uns ks env) S1 with
          | .nx e2 S2 => whileL ks ta ds m e2 S2
          | .ct e2 S2 => whileL ks ta ds m e2 S2
          | .bk e2 S2 => .nx (uns ks e2) S2
          | r => r) else .nx (uns ks env) S1) := EndS.up (r := if c = true then _ else _) p l1
        have sl1 := (uns_slots sl ks).mono l1
        split at p1
        · rename_i hc
          rw [if_pos hc]
          refine ⟨fun σ' H' => ∃ (env : Env) (S : Sto) (M : List Addr), Sim I S M H' ∧ Slots I M (mask S M H') env σ' ∧ EndS I S M H' D w (whileL ks ta ds m env S), fun σ' H' h => ⟨m, Nat.lt_succ_self _, h⟩, uns ks env, S1, M1, s1, sl1, ?_⟩
          generalize ds (uns ks env) S1 = r at p1 ⊢
          cases r with
          | nx e2 S2 => exact fun σ' H' M' l' s' sl' => ⟨e2, S2, M', s', sl', EndS.up p1 l'⟩
          | ct e2 S2 => exact fun σ' H' M' l' s' sl' => ⟨e2, S2, M', s', sl', EndS.up p1 l'⟩
          | bk e2 S2 => exact fun σ' H' M' l' s' sl' => p1 σ' H' M' l' s' (uns_slots sl' ks)
          | rt w S2 => exact p1
          | exc c x e2 S2 => exact p1
          | bad => exact p1
        · rename_i hc
          rw [if_neg hc]
          exact p1 σ H1 M1 Le.refl s1 sl1
/-- what J gives: the items xs, while gd holds of the store (Hs: the part of the heap that the store speaks of) -/
structure WalkI (I : Inf) (J : It) (xs : List W) (gd : Sto → Prop) (S : Sto) (M : List Addr) (H : Hp) : Prop where
  item : ∀ (S2 : Sto) (M2 : List Addr) (Hs H2 : Hp), Le S M H S2 M2 Hs → Sim I S2 M2 Hs → Ex Hs H2 → gd S2 → ∀ (i : Nat) (x : W), xs[i]? = some x → J.go i H2 ∧ ∀ v H3, J.yld i H2 v H3 →
    (H3 = H2 ∧ RepW I M2 (mask S2 M2 Hs) x v) ∨ ∃ (T : Addr) (us : List V) (ys : List D), H2 T = none ∧ H3 = upd H2 T (.tup us) ∧ v = .ref T ∧ x = .d (.tup ys) ∧ Reps I (mask S2 M2 Hs) ys us
  stop : ∀ (S2 : Sto) (M2 : List Addr) (Hs H2 : Hp), Le S M H S2 M2 Hs → Sim I S2 M2 Hs → Ex Hs H2 → gd S2 → J.stop xs.length H2
def rdI (I : Inf) (w : WX) (d : DI) : TI := fun σ H R => ∃ (env : Env) (S : Sto) (M : List Addr), Sim I S M H ∧ Slots I M (mask S M H) env σ ∧ (match d env S with
  | .ok p S' => ∀ (J : It) (H' : Hp) (M' : List Addr), Le S M H S' M' H' → Sim I S' M' H' → WalkI I J p.1 p.2 S' M' H' → R J H'
  | .exc c x S' => ∀ (cls : Value) (dd : Option Addr) (H' : Hp) (M' : List Addr), Le S M H S' M' H' → Sim I S' M' H' → RepX I (mask S' M' H') c x cls dd → w cls dd σ H'
  | .bad => False)
theorem PI_imp {t t' : TI} (h : PI X tg iter t) (i : ∀ σ H R, t' σ H R → t σ H R) : PI X tg iter t' := ⟨fun pins s σ H R I q => h.run pins s σ H R I (i σ H R q)⟩
theorem ss_for {ks : List Nat} (t : Cok J X w F Fi k) (hi : PI X tg iter (rdI I w di)) (hg : PG X tg (rdG I g vs)) (hb : PSs X sts (rdS I w ds)) (hs : ∀ x, foldedSetIterable iter X.env x = pure x := by intro _; rfl) : PS X (.For tg iter sts [] pos) (rdS I w (sFor ks g di ds)) :=
  PS_imp (ps_for t.po t.calm hi hg hb hs) fun D σ H ⟨env, S, M, s, sl, p⟩ => by
    refine ⟨env, S, M, s, sl, ?_⟩
    unfold sFor at p
    generalize di env S = r at p ⊢
    cases r with
    | bad => exact p
    | exc c x S1 => exact fun cls dd H' M' l' s' r' => p cls dd σ H' M' l' s' (sl.mono l') r'
    | ok q S1 =>
      obtain ⟨xs, gd⟩ := q
      intro J1 H1 M1 l1 s1 wk
      have p : EndS I S M H D w (forL ks g ds gd xs env S1) := p
      refine ⟨fun i m σ' H' => ∃ (env' : Env) (S' : Sto) (M' : List Addr), m = xs.length - i ∧ i ≤ xs.length ∧ Le S1 M1 H1 S' M' H' ∧ Sim I S' M' H' ∧ Slots I M' (mask S' M' H') env' σ' ∧ EndS I S' M' H' D w (forL ks g ds gd (xs.drop i) env' S'),
        ⟨_, env, S1, M1, rfl, Nat.zero_le _, Le.refl, s1, sl.mono l1, EndS.up p l1⟩, fun i m σ' H' ⟨env', S', M', hm, hi, l', s', sl', p'⟩ => ?_⟩
      rcases Nat.lt_or_ge i xs.length with hlt | hge
      · right
        rw [List.drop_eq_getElem_cons hlt] at p'
        unfold forL at p'
        split at p'
        · rename_i hgd
          obtain ⟨hgo, hy⟩ := wk.item S' M' H' H' l' s' (Ex.refl _) hgd i _ (List.getElem?_eq_getElem hlt)
          refine ⟨hgo, fun σ2 H2 => ∃ (env' : Env) (S' : Sto) (M' : List Addr), Le S1 M1 H1 S' M' H2 ∧ Sim I S' M' H2 ∧ Slots I M' (mask S' M' H2) env' σ2 ∧ EndS I S' M' H2 D w (forL ks g ds gd (xs.drop (i + 1)) env' S'),
            fun σ2 H2 ⟨env', S', M', a1, a2, a3, a4⟩ => ⟨_, by omega, env', S', M', rfl, hlt, a1, a2, a3, a4⟩, fun v H3 hyl => ?_⟩
          obtain ⟨s3, l3, r3⟩ : Sim I S' M' H3 ∧ Le S' M' H' S' M' H3 ∧ RepW I M' (mask S' M' H3) xs[i] v := by
            rcases hy v H3 hyl with ⟨rfl, r3⟩ | ⟨T, us, ys, nT, rfl, rfl, ex, rs⟩
            · exact ⟨s', Le.refl, r3⟩
            · obtain ⟨a1, a2⟩ := s'.new (o := .tup us) nT
              rw [ex]
              exact ⟨a1, a2, .tup (.inl (.inl (mask_new s' nT))) (rs.mono a2.ex)⟩
          have sl3 := (uns_slots sl' ks).mono l3
          split at p'
          · exact p'.elim
          · rename_i e1 he1
            refine ⟨_, _, S', M', s3, sl3, r3, e1, he1, fun σ4 sl4 _ => ⟨e1, S', M', s3, sl4, ?_⟩⟩
            have p' := EndS.up p' l3
            have l4 := l'.trans l3
            generalize ds e1 S' = r at p' ⊢
            cases r with
            | nx e2 S2 => exact fun σ' H' M' l' s' sl' => ⟨e2, S2, M', l4.trans l', s', sl', EndS.up p' l'⟩
            | ct e2 S2 => exact fun σ' H' M' l' s' sl' => ⟨e2, S2, M', l4.trans l', s', sl', EndS.up p' l'⟩
            | bk e2 S2 => exact fun σ' H' M' l' s' sl' => p' σ' H' M' l' s' (uns_slots sl' ks)
            | rt w S2 => exact p'
            | exc c x e2 S2 => exact p'
            | bad => exact p'
        · exact p'.elim
      · left
        have hi' : i = xs.length := by omega
        subst hi'
        rw [List.drop_length] at p'
        unfold forL at p'
        split at p'
        · rename_i hgd
          exact ⟨wk.stop S' M' H' H' l' s' (Ex.refl _) hgd, p' σ' H' M' Le.refl s' (uns_slots sl' ks)⟩
        · exact p'.elim
/-! ### a list aside -/
def era (H : Hp) (D : Addr) : Hp := fun a => if a = D then none else H a
theorem era_same {H : Hp} {D : Addr} : era H D D = none := by unfold era; rw [if_pos rfl]
theorem era_ne {H : Hp} {D a : Addr} (h : a ≠ D) : era H D a = H a := by unfold era; rw [if_neg h]
theorem era_upd {H : Hp} {D : Addr} {o : HO} (h : H D = none) : era (upd H D o) D = H := by
  funext a
  by_cases e : a = D
  · rw [e, era_same, h]
  · rw [era_ne e, upd_ne e]
theorem inv_aside {pins : List (Addr × Obj)} {σ : L2.St} {H : Hp} {s : Shared} {D : Addr} {xs : List V} (In : Inv X pins σ H s) (h : H D = some (.lst xs)) :
    (∀ o, X.s_0.heap.get? D = some o → X.H_0 D = none → D ∉ X.ex → False) ∧ (∀ p ∈ X.pn ++ pins, p.1 ≠ D) ∧ ∃ (its : List Value) (n : Nat), Vals xs its ∧ xs.length ≤ sizeLine ∧ Inv X (pins ++ [(D, { cls := .type "list", data := .seq its.toArray n })]) σ (era H D) s := by
  obtain ⟨its, n, r, e, z⟩ := In.lst h
  refine ⟨fun o e1 e2 e3 => ?_, fun p hp q => ?_, ?_⟩
  · have := In.base.free D o e1 e2 e3
    rw [h] at this
    cases this
  · obtain ⟨_, a2, _⟩ := In.pin p hp
    rw [q, h] at a2
    cases a2
  have sub : ∀ b, H b = none → era H D b = none := fun b e => by
    by_cases q : b = D
    · rw [q]; exact era_same
    · rw [era_ne q]; exact e
  have nD : ∀ b o, H b = some o → (∀ ys, o ≠ .lst ys) → b ≠ D := fun b o e n q => by
    rw [q, h] at e
    cases e
    exact n xs rfl
  have keepsome : ∀ b o, H b = some o → (∀ ys, o ≠ .lst ys) → era H D b = some o := fun b o e n => by rw [era_ne (nD b o e n)]; exact e
  refine ⟨its, n, r, z, ⟨In.ok, In.os, In.bare, ⟨In.base.keep, In.base.slot, fun b o q n hx => sub b (In.base.free b o q n hx), In.base.there, fun b ys q => keepsome _ _ (In.base.tups b ys q) (by intro ys z; cases z), fun b o u q => keepsome _ _ (In.base.frzs b o u q) (by intro ys z; cases z),
    fun b ps q => ?_⟩, In.loc, In.cell, sub _ In.free, fun x c q => sub _ (In.freeC x c q), fun p hp => ?_, fun b o q => ?_, In.len⟩⟩
  · obtain ⟨more, z⟩ := In.base.tbls b ps q
    exact ⟨more, keepsome _ _ z (by intro ys z; cases z)⟩
  · rcases List.mem_append.mp (by simpa using hp : p ∈ (X.pn ++ pins) ++ [(D, ({ cls := .type "list", data := .seq its.toArray n } : Obj))]) with hp | hp
    · obtain ⟨a1, a2, a3, a4, a5⟩ := In.pin p hp
      exact ⟨a1, sub _ a2, a3, a4, a5⟩
    · have : p = (D, ({ cls := .type "list", data := .seq its.toArray n } : Obj)) := by simpa using hp
      subst this
      refine ⟨e, era_same, fun q => ?_, fun q => ?_, fun v q => by cases q⟩
      · have := In.free
        rw [← q] at this
        rw [h] at this
        cases this
      · obtain ⟨_, o, ho, _⟩ := In.ok.funs.mem q
        have := In.base.free D o ho (In.ok.frf D q) fun z => In.ok.exfs D z q
        rw [h] at this
        cases this
  · by_cases q' : b = D
    · rw [q', era_same] at q
      cases q
    · rw [era_ne q'] at q
      exact (In.hok b o q).stay (fun _ _ _ q => q) (fun c q => keepsome _ _ q (by intro ys z; cases z)) fun c ys q => keepsome _ _ q (by intro ys z; cases z)
theorem inv_back {pins : List (Addr × Obj)} {σ : L2.St} {H : Hp} {s : Shared} {D : Addr} {xs : List V} {its : List Value} {n : Nat} (h1 : ∀ o, X.s_0.heap.get? D = some o → X.H_0 D = none → D ∉ X.ex → False) (h2 : ∀ p ∈ X.pn ++ pins, p.1 ≠ D) (r : Vals xs its) (z : xs.length ≤ sizeLine)
    (In : Inv X (pins ++ [(D, { cls := .type "list", data := .seq its.toArray n })]) σ H s) : H D = none ∧ Inv X pins σ (upd H D (.lst xs)) s := by
  obtain ⟨p1, p2, p3, p4, p5⟩ := In.pin (D, { cls := .type "list", data := .seq its.toArray n }) (by simp)
  have p2 : H D = none := p2
  have p3 : D ≠ X.env.locals := p3
  have p1 : s.heap.get? D = some { cls := .type "list", data := .seq its.toArray n } := p1
  have up : ∀ b o, H b = some o → upd H D (.lst xs) b = some o := fun b o e => by rw [upd_ne (ne_of_none e p2)]; exact e
  refine ⟨p2, ⟨In.ok, In.os, In.bare, ⟨In.base.keep, In.base.slot, fun b o q n hx => ?_, In.base.there, fun b ys q => up _ _ (In.base.tups b ys q), fun b o u q => up _ _ (In.base.frzs b o u q), fun b ps q => ?_⟩, In.loc, In.cell, ?_, fun x c q => ?_, fun p hp => ?_, fun b o q => ?_, In.len⟩⟩
  · have e := In.base.free b o q n hx
    by_cases q' : b = D
    · subst q'
      exact (h1 o q n hx).elim
    · rw [upd_ne q']; exact e
  · obtain ⟨more, z⟩ := In.base.tbls b ps q
    exact ⟨more, up _ _ z⟩
  · rw [upd_ne (Ne.symm p3)]
    exact In.free
  · rw [upd_ne]
    · exact In.freeC x c q
    · intro z
      obtain ⟨v, o, ho, hd⟩ := In.cell x c q
      rw [z, p1] at ho
      cases ho
      cases hd
  · obtain ⟨a1, a2, a3, a4, a5⟩ := In.pin p (by
      rcases List.mem_append.mp hp with h | h
      · exact List.mem_append_left _ h
      · exact List.mem_append_right _ (List.mem_append_left _ h))
    exact ⟨a1, by rw [upd_ne (h2 p hp)]; exact a2, a3, a4, a5⟩
  · by_cases q' : b = D
    · subst q'
      rw [upd_same] at q
      cases q
      exact ⟨z, its, n, r, p1⟩
    · rw [upd_ne q'] at q
      exact (In.hok b o q).stay (fun _ _ _ q => q) (fun c q => up _ _ q) fun c ys q => up _ _ q
theorem wipe_wipe (σ : L2.St) (own : List Nat) : wipe (wipe σ own) own = wipe σ own := by
  have h : ∀ (l : List Nat) (τ : L2.St), (∀ i ∈ l, i ∈ own) → wipe (wipe τ l) own = wipe τ own := fun l => by
    induction l with
    | nil => intro τ _; rfl
    | cons i l ih =>
      intro τ hh
      show wipe ((wipe τ l).set i none) own = wipe τ own
      rw [wipe_set (hh i (by simp))]
      exact ih τ fun j hj => hh j (by simp [hj])
  exact h own σ fun _ h => h
theorem PE_aside {t : TE} (h : PE X e t) : PE X e (fun σ H Q => ∃ (D : Addr) (xs : List V), H D = some (.lst xs) ∧ t σ (era H D) fun y H' => H' D = none → Q y (upd H' D (.lst xs))) := by
  refine ⟨fun pins s σ H Q In ⟨D, xs, hD, q⟩ => ?_⟩
  obtain ⟨h1, h2, its, n, r, z, I1⟩ := inv_aside In hD
  refine thn (h.run _ s σ _ _ I1 q) fun v s1 ⟨x, H', I2, rx, q2⟩ => ?_
  obtain ⟨n2, I3⟩ := inv_back h1 h2 r z I2
  exact ⟨x, _, I3, rx, q2 n2⟩
theorem PTs_aside {ifs : List Expr} {t : TT} (h : PTs X ifs t) : PTs X ifs (fun σ H Q => ∃ (D : Addr) (xs : List V), H D = some (.lst xs) ∧ t σ (era H D) fun y H' => H' D = none → Q y (upd H' D (.lst xs))) := by
  refine ⟨fun pins s σ H Q In ⟨D, xs, hD, q⟩ => ?_⟩
  obtain ⟨h1, h2, its, n, r, z, I1⟩ := inv_aside In hD
  refine thn (h.run _ s σ _ _ I1 q) fun v s1 ⟨H', I2, q2⟩ => ?_
  obtain ⟨n2, I3⟩ := inv_back h1 h2 r z I2
  exact ⟨_, I3, q2 n2⟩
theorem PG_aside {t : TG} (h : PG X e t) : PG X e (fun v σ H Q => ∃ (D : Addr) (xs : List V), H D = some (.lst xs) ∧ t v σ (era H D) fun σ' H' => H' D = none → Q σ' (upd H' D (.lst xs))) := by
  refine ⟨fun pins s σ H v u Q In rv ⟨D, xs, hD, q⟩ => ?_⟩
  obtain ⟨h1, h2, its, n, r, z, I1⟩ := inv_aside In hD
  refine thn (h.run _ s σ _ v u _ I1 rv q) fun _ s1 ⟨σ', H', I2, q2⟩ => ?_
  obtain ⟨n2, I3⟩ := inv_back h1 h2 r z I2
  exact ⟨σ', _, I3, q2 n2⟩
theorem compL_noexc (gd : Sto → Prop) (env : Env) : ∀ (xs : List W) (S : Sto), (∃ ws S', compL g ta el gd env xs S = .ok ws S') ∨ compL g ta el gd env xs S = .bad
  | [], S => by
    unfold compL
    split
    · exact .inl ⟨_, _, rfl⟩
    · exact .inr rfl
  | x :: xs, S => by
    unfold compL
    split
    · split
      · exact .inr rfl
      · rename_i e1 _
        generalize ta e1 S = r1
        cases r1 with
        | bad => exact .inr rfl
        | exc c x S1 => exact .inr rfl
        | ok c S1 =>
          show (∃ ws S', (if c = true then _ else _) = R.ok ws S') ∨ (if c = true then _ else _) = R.bad
          split
          · generalize el e1 S1 = r2
            cases r2 with
            | bad => exact .inr rfl
            | exc c x S1 => exact .inr rfl
            | ok y S2 =>
              show (∃ ws S', (compL g ta el gd env xs S2).bind _ = R.ok ws S') ∨ (compL g ta el gd env xs S2).bind _ = R.bad
              rcases compL_noexc gd env xs S2 with ⟨ws, S', e⟩ | e
              · rw [e]; exact .inl ⟨_, _, rfl⟩
              · rw [e]; exact .inr rfl
          · exact compL_noexc gd env xs S1
    · exact .inr rfl
/-- how a comprehension's list ends up -/
inductive CFin (I : Inf) : (List W → Sto → R W) → Prop
  | plain : CFin I fun ws S2 => if ws.length ≤ 16777216 then (match plainL ws with
    | some xs => .ok (.d (.lst xs)) S2
    | none => .bad) else .bad
  | cell : CFin I fun ws S2 => if ws.length ≤ 16777216 then .ok (.c S2.length) (S2 ++ [.lst ws]) else .bad
theorem CFin.end_ {fin : List W → Sto → R W} (c : CFin I fin) {ws : List W} {us : List V} {S : Sto} {M : List Addr} {H : Hp} {D : Addr} {Q : VK} {E : XK} (s : Sim I S M H) (r : RepWs I M (mask S M H) ws us) (nD : H D = none)
    (p : EndR I S M H (RepW I) Q E (fin ws S)) : Q (.ref D) (upd H D (.lst us)) := by
  cases c with
  | plain =>
    dsimp only at p
    split at p
    · split at p
      · rename_i xs hx
        exact new_d p s nD fun H' h ex => .lst h ((plainL_rep r hx).mono ex)
      · exact p.elim
    · exact p.elim
  | cell =>
    dsimp only at p
    split at p
    · exact new_c p s nD (lows_of s r) ⟨us, rfl, r⟩ (by intro z; cases z)
    · exact p.elim
theorem CFin.len {fin : List W → Sto → R W} (c : CFin I fin) {ws : List W} {S : Sto} (h : fin ws S ≠ .bad) : ws.length ≤ 16777216 := by
  cases c with
  | plain =>
    dsimp only at h
    split at h
    · assumption
    · exact absurd rfl h
  | cell =>
    dsimp only at h
    split at h
    · assumption
    · exact absurd rfl h
abbrev aT (t : TT) : TT := fun σ H Q => ∃ (D : Addr) (xs : List V), H D = some (.lst xs) ∧ t σ (era H D) fun y H' => H' D = none → Q y (upd H' D (.lst xs))
abbrev aE (t : TE) : TE := fun σ H Q => ∃ (D : Addr) (xs : List V), H D = some (.lst xs) ∧ t σ (era H D) fun y H' => H' D = none → Q y (upd H' D (.lst xs))
abbrev aG (t : TG) : TG := fun v σ H Q => ∃ (D : Addr) (xs : List V), H D = some (.lst xs) ∧ t v σ (era H D) fun σ' H' => H' D = none → Q σ' (upd H' D (.lst xs))
theorem comp_rd {own : List Nat} {fin : List W → Sto → R W} (c : CFin I fin) (hv : ∀ i ∈ vs, i ∈ own) {σ : L2.St} {H : Hp} {Q : VK}
    (q : rdE I w (fun e S => (di e S).bind fun p S1 => (compL g ta el p.2 (uns own e) p.1 S1).bind fin) σ H Q) : tLc (rdI I w di) (aG (rdG I g vs)) (aT (rdT I w0 ta)) (aE (rdE I w0 el)) own σ H Q := by
  obtain ⟨env, S, M, s, sl, p⟩ := q
  refine ⟨env, S, M, s, sl, ?_⟩
  dsimp only at p
  generalize di env S = r at p ⊢
  cases r with
  | bad => exact p
  | exc c x S1 => exact p
  | ok qq S1 =>
    obtain ⟨xs, gd⟩ := qq
    intro J1 H1 M1 l1 s1 wk D nD
    have p : EndR I S1 M1 H1 (RepW I) Q (fun cls dd H' => w cls dd σ H') ((compL g ta el gd (uns own env) xs S1).bind fin) := EndR.up (r := (compL g ta el gd (uns own env) xs S1).bind fin) p l1
    have sl1 := sl.mono l1
    refine ⟨fun i m H' => ∃ (S' : Sto) (M' : List Addr) (Hs : Hp) (accW : List W) (acc : List V), H' = upd Hs D (.lst acc) ∧ Hs D = none ∧ m = xs.length - i ∧ i ≤ xs.length ∧ Le S1 M1 H1 S' M' Hs ∧ Sim I S' M' Hs ∧ RepWs I M' (mask S' M' Hs) accW acc ∧
      EndR I S' M' Hs (RepW I) Q (fun cls dd H' => w cls dd σ H') ((compL g ta el gd (uns own env) (xs.drop i) S').bind fun ys S3 => fin (accW ++ ys) S3),
      ⟨_, S1, M1, H1, [], [], rfl, nD, rfl, Nat.zero_le _, Le.refl, s1, .nil, p⟩, fun i m H' ⟨S', M', Hs, accW, acc, eH, nDs, hm, hi, l', s', ra, p'⟩ => ?_⟩
    subst eH
    have exs : Ex Hs (upd Hs D (.lst acc)) := fun a o e => by rw [upd_ne (ne_of_none e nDs)]; exact e
    rcases Nat.lt_or_ge i xs.length with hlt | hge
    · right
      rw [List.drop_eq_getElem_cons hlt] at p'
      have hbad : compL g ta el gd (uns own env) (xs[i] :: xs.drop (i + 1)) S' ≠ .bad := fun z => by rw [z] at p'; exact p'
      have e0 := compL.eq_def g ta el gd (uns own env) (xs[i] :: xs.drop (i + 1)) S'
      dsimp only at e0
      have hgd : gd S' := by
        by_cases z : gd S'
        · exact z
        · rw [if_neg z] at e0
          exact absurd e0 hbad
      rw [if_pos hgd] at e0
      rw [e0] at p'
      clear e0 hbad
      obtain ⟨hgo, hy⟩ := wk.item S' M' Hs _ l' s' exs hgd i _ (List.getElem?_eq_getElem hlt)
      refine ⟨hgo, fun H2 => ∃ (S' : Sto) (M' : List Addr) (Hs : Hp) (accW : List W) (acc : List V), H2 = upd Hs D (.lst acc) ∧ Hs D = none ∧ Le S1 M1 H1 S' M' Hs ∧ Sim I S' M' Hs ∧ RepWs I M' (mask S' M' Hs) accW acc ∧
        EndR I S' M' Hs (RepW I) Q (fun cls dd H' => w cls dd σ H') ((compL g ta el gd (uns own env) (xs.drop (i + 1)) S').bind fun ys S3 => fin (accW ++ ys) S3),
        fun H2 ⟨S', M', Hs, accW, acc, a1, a2, a3, a4, a5, a6⟩ => ⟨_, by omega, S', M', Hs, accW, acc, a1, a2, rfl, hlt, a3, a4, a5, a6⟩, fun v H3 hyl => ?_⟩
      -- the item
      obtain ⟨Hs3, e3, nD3, s3, l3, r3⟩ : ∃ Hs3, H3 = upd Hs3 D (.lst acc) ∧ Hs3 D = none ∧ Sim I S' M' Hs3 ∧ Le S' M' Hs S' M' Hs3 ∧ RepW I M' (mask S' M' Hs3) xs[i] v := by
        rcases hy v H3 hyl with ⟨rfl, r3⟩ | ⟨T, us, ys, nT, rfl, rfl, ex, rs⟩
        · exact ⟨Hs, rfl, nDs, s', Le.refl, r3⟩
        · have TD : T ≠ D := fun z => by rw [z, upd_same] at nT; cases nT
          have nT' : Hs T = none := by rw [upd_ne TD] at nT; exact nT
          obtain ⟨a1, a2⟩ := s'.new (o := .tup us) nT'
          refine ⟨upd Hs T (.tup us), ?_, by rw [upd_ne (Ne.symm TD)]; exact nDs, a1, a2, ?_⟩
          · funext a
            by_cases z1 : a = T
            · rw [z1, upd_same, upd_ne TD, upd_same]
            · rw [upd_ne z1]
              by_cases z2 : a = D
              · rw [z2, upd_same, upd_same]
              · rw [upd_ne z2, upd_ne z2, upd_ne z1]
          · rw [ex]
            exact .tup (.inl (.inl (mask_new s' nT'))) (rs.mono a2.ex)
      subst e3
      refine ⟨D, acc, upd_same, ?_⟩
      rw [era_upd nD3]
      have slb : Slots I M' (mask S' M' Hs3) (uns own env) (wipe σ own) := uns_wipe ((sl1.mono l').mono l3) own
      split at p'
      · exact p'.elim
      rename_i e1 he1
      refine ⟨_, _, S', M', s3, slb, r3, e1, he1, fun σ2 sl2 hw nD4 => ⟨by rw [hw own hv]; exact wipe_wipe _ _, D, acc, upd_same, ?_⟩⟩
      rw [era_upd nD4]
      have p' := EndR.up p' l3
      refine ⟨e1, S', M', s3, sl2, ?_⟩
      generalize ta e1 S' = rt at p' ⊢
      cases rt with
      | bad => exact p'.elim
      | exc c x S2 => exact p'.elim
      | ok cc S2 =>
        intro b H4 M4 l4 s4 eb nD5
        subst eb
        have p' : EndR I S' M' Hs3 (RepW I) Q (fun cls dd H' => w cls dd σ H') ((if cc = true then ((el e1 S2).ne.bind fun y S2 => (compL g ta el gd (uns own env) (xs.drop (i + 1)) S2).bind fun ys S3 => .ok (y :: ys) S3) else compL g ta el gd (uns own env) (xs.drop (i + 1)) S2).bind fun ys S3 => fin (accW ++ ys) S3) := p'
        have p' := EndR.up p' l4
        have l5 := (l'.trans l3).trans l4
        cases cc with
        | false =>
          exact ⟨S2, M4, H4, accW, acc, rfl, nD5, l5, s4, (ra.mono l3).mono l4, p'⟩
        | true =>
          refine ⟨D, acc, upd_same, ?_⟩
          rw [era_upd nD5]
          refine ⟨e1, S2, M4, s4, sl2.mono l4, ?_⟩
          have p' : EndR I S2 M4 H4 (RepW I) Q (fun cls dd H' => w cls dd σ H') (((el e1 S2).ne.bind fun y S2 => (compL g ta el gd (uns own env) (xs.drop (i + 1)) S2).bind fun ys S3 => .ok (y :: ys) S3).bind fun ys S3 => fin (accW ++ ys) S3) := p'
          generalize el e1 S2 = re at p' ⊢
          cases re with
          | bad => exact p'.elim
          | exc c x S3 => exact p'.elim
          | ok y S3 =>
            intro vy H6 M6 l6 s6 ry nD6
            have p' : EndR I S2 M4 H4 (RepW I) Q (fun cls dd H' => w cls dd σ H') (((compL g ta el gd (uns own env) (xs.drop (i + 1)) S3).bind fun ys S3 => .ok (y :: ys) S3).bind fun ys S3 => fin (accW ++ ys) S3) := p'
            have p' := EndR.up p' l6
            have ra6 := ((ra.mono l3).mono l4).mono l6
            have hb : ∃ ys S4, compL g ta el gd (uns own env) (xs.drop (i + 1)) S3 = .ok ys S4 ∧ fin (accW ++ y :: ys) S4 ≠ .bad := by
              rcases compL_noexc (g := g) (ta := ta) (el := el) gd (uns own env) (xs.drop (i + 1)) S3 with ⟨ys, S4, e⟩ | e
              · rw [e] at p'
                exact ⟨ys, S4, e, fun z => by
                  have p' : EndR I S3 M6 H6 (RepW I) Q (fun cls dd H' => w cls dd σ H') (fin (accW ++ y :: ys) S4) := p'
                  rw [z] at p'
                  exact p'⟩
              · rw [e] at p'
                exact p'.elim
            obtain ⟨ys, S4, ec, hnb⟩ := hb
            have hlen := c.len hnb
            refine ⟨acc, upd_same, ?_, S3, M6, H6, accW ++ [y], acc ++ [vy], upd_upd, nD6, l5.trans l6, s6, RepWs.app ra6 (.cons ry .nil), ?_⟩
            · rw [sizeLine_eq, ← Paired.length ra6]
              simp at hlen
              omega
            · rw [ec] at p' ⊢
              have : accW ++ [y] ++ ys = accW ++ y :: ys := by simp
              show EndR I S3 M6 H6 (RepW I) Q (fun cls dd H' => w cls dd σ H') (fin (accW ++ [y] ++ ys) S4)
              rw [this]
              exact p'
    · left
      have hi' : i = xs.length := by omega
      subst hi'
      rw [List.drop_length] at p'
      unfold compL at p'
      split at p'
      · rename_i hgd
        have p' : EndR I S' M' Hs (RepW I) Q (fun cls dd H' => w cls dd σ H') (fin (accW ++ []) S') := p'
        rw [List.append_nil] at p'
        exact ⟨wk.stop S' M' Hs _ l' s' exs hgd, c.end_ s' ra nDs p'⟩
      · exact p'.elim
end
end Py

/-! Py11: what a loop walks; comprehensions as values and stored. -/
namespace Py
open PySem PySem.Spec PyProof.Rows L2
/-- the items of a list, tuple or text, and what must stay of the store -/
@[simp] def itemsOf : W → Sto → Option (List W × (Sto → Prop))
  | .d (.str x), _ => some (x.cps.toList.map fun c => .d (.str ⟨#[c]⟩), fun _ => True)
  | .d (.tup xs), _ => some (xs.map W.d, fun _ => True)
  | .d (.lst xs), _ => some (xs.map W.d, fun _ => True)
  | .d (.lsx xs), _ => some (xs.map W.d, fun _ => True)
  | .c i, S => match S[i]? with
    | some (.lst ws) => some (ws, fun S' => S'[i]? = some (.lst ws))
    | _ => none
  | _, _ => none
@[simp] def iAny (a : DE) : DI := fun e S => (a e S).bind fun x S1 => match itemsOf x S1 with
  | some p => .ok p S1
  | none => .bad
def rng (lo hi : Int) : List W := (List.range (hi - lo).toNat).map fun (i : Nat) => W.d (.int (lo + i))
@[simp] def smallI (i : Int) : Bool := decide (-(2 ^ 62) ≤ i) && decide (i < 2 ^ 62)
@[simp] def ofO {α : Type} (o : Option α) (S : Sto) : R α := match o with
  | some a => .ok a S
  | none => .bad
@[simp] def rg1 : W → Option (List W × (Sto → Prop))
  | .d (.int n) => if smallI n = true then some (rng 0 n, fun _ => True) else none
  | _ => none
@[simp] def rg2 : W → W → Option (List W × (Sto → Prop))
  | .d (.int m), .d (.int n) => if smallI m = true ∧ smallI n = true then some (rng m n, fun _ => True) else none
  | _, _ => none
/-- lo, lo - 1, .. above hi -/
def rngD (lo hi : Int) : List W := (List.range (lo - hi).toNat).map fun (i : Nat) => W.d (.int (lo - i))
@[simp] def rg3 : W → W → W → Option (List W × (Sto → Prop))
  | .d (.int m), .d (.int n), .d (.int q) => if smallI m = true ∧ smallI n = true ∧ q = -1 then some (rngD m n, fun _ => True) else none
  | _, _, _ => none
@[simp] def iRange1 (a : DE) : DI := fun e S => (a e S).bind fun x S1 => ofO (rg1 x) S1
@[simp] def iRange2 (a b : DE) : DI := fun e S => (a e S).bind fun x S1 => (b e S1).bind fun y S2 => ofO (rg2 x y) S2
@[simp] def iRange3 (a b c : DE) : DI := fun e S => (a e S).bind fun x S1 => (b e S1).bind fun y S2 => (c e S2).bind fun z S3 => ofO (rg3 x y z) S3
/-! reversed of a text -/
theorem norev_str : typeLookup (.type "str") "__reversed__" = pure none := by rw [typeLookup_type, builtinLookup_eq_fast]; kernel_rfl
theorem get_str : typeLookup (.type "str") "__getitem__" = pure (some (.builtin "str.__getitem__")) := by rw [typeLookup_type, builtinLookup_eq_fast]; kernel_rfl
theorem str_nodict : isSubtype (.type "str") (.type "dict") = pure false := by rw [isSubtype_type]; kernel_rfl
def rsObj (x : Str) (t : Tok) (i : Int) : Obj := { cls := .type "reversed", data := .fields #[.str x t, rawInt i] }
def IsRs (h : Heap) (a : Addr) (x : Str) (t : Tok) (i : Int) : Prop := ∃ o, h.get? a = some o ∧ o.cls = .type "reversed" ∧ o.data = .fields #[.str x t, rawInt i]
theorem IsRs.at {h h' : Heap} {a : Addr} {x : Str} {t : Tok} {i : Int} (z : IsRs h a x t i) (e : ∀ o, h.get? a = some o → h'.get? a = some o) : IsRs h' a x t i := let ⟨o, ho, r⟩ := z; ⟨o, e _ ho, r⟩
section
variable {prog : Program} {w : World} {A : Around} {E : Value → Shared → Prop} {s : Shared}
theorem IsRs.typeIs {a : Addr} {x : Str} {t : Tok} {i : Int} (z : IsRs s.heap a x t i) : s.TypeIs (.ref a) "reversed" := let ⟨o, ho, hc, _⟩ := z; ⟨o, ho, hc⟩
theorem code_reversed_str {x : Str} {t : Tok} {Q₁ : Value → Shared → Prop} (hfit : ¬ (x.length : Int) ≥ 2 ^ 63)
    (h : Q₁ (.ref s.heap.objs.size) { s with heap := s.heap.push (rsObj x t ((x.length : Int) - 1)), toks := s.toks + 1 + 1 }) :
    codeAny (model prog w) A (.call (.builtin "reversed.__new__") ⟨[.type "reversed", .str x t], []⟩) (wants Q₁ E) s := by
  have hT : s.TypeIs (.str x t) "str" := typeIs_str s x t
  refine codeAny_of_tree ?_
  show wpAny _ A.in1 (do checkBuiltinCall "reversed.__new__" ⟨[.type "reversed", .str x t], []⟩; again (.builtin "reversed.__new__" ⟨[.type "reversed", .str x t], []⟩)) _ _ s
  refine wpAny_bind (wpAny_of_eq (F.newCall_reversed_1 _) (wpAny_pure ⟨plainId_quiet F.plain_reversed_new _, codeAny_builtin F.entry_reversed_new ?_⟩))
  rw [Around.under_plainId F.plain_reversed_new _]
  unfold Builtin.«reversed.__new__»
  refine wpAny_bind (wpAny_of_eq (newClass_reversed _) ?_)
  try dsimp only
  refine wpAny_bind (wpAny_of_eq (a := ()) (by first | rfl | kernel_rfl) ?_)
  try dsimp only
  refine wpAny_bind (wpAny_of_eq (a := ()) (by first | rfl | kernel_rfl) ?_)
  try dsimp only
  refine wpAny_bind (wpAny_specialOf hT norev_str ?_)
  try dsimp only
  refine wpAny_bind ?_
  wp_delta
  refine wpAny_bind (wpAny_isInstance (T := "str") (U := "dict") (b := false) hT str_nodict ?_)
  try dsimp only
  try rw [if_neg Bool.false_ne_true]
  try dsimp only
  refine wpAny_bind (wpAny_specialOf hT get_str ?_)
  try dsimp only
  try rw [if_pos (by decide +kernel)]
  refine wpAny_pure ?_
  try dsimp only
  try rw [if_neg (by decide)]
  try dsimp only
  refine wpAny_bind (P.len_str hfit ?_)
  refine wpAny_bind (wpAny_of_eq (a := some ((x.length : Nat) : Int)) rfl ?_)
  try dsimp only
  refine wpAny_bind ?_
  show wpAny _ _ (newObj (.type "reversed") (.fields #[.str x t, rawInt ((x.length : Int) - 1)])) _ _ _
  refine wpAny_newObj_type ?_
  exact wpAny_pure h
theorem call_reversed_str {x : Str} {t : Tok} {Q : Value → Shared → Prop} (hfit : ¬ (x.length : Int) ≥ 2 ^ 63)
    (h : Q (.ref s.heap.objs.size) { s with heap := s.heap.push (rsObj x t ((x.length : Int) - 1)), toks := s.toks + 1 + 1 }) : wpAny (model prog w) A (call (.type "reversed") [.str x t]) Q E s := by
  refine callType_codes (Q₁ := fun obj s₁ => s₁.TypeIs obj "reversed" ∧ Q obj s₁) RT.called_rt (F.typeCall_reversed_1 _) F.entry_object_init
    (code_reversed_str (A := A.in1) hfit ⟨⟨_, Heap.get?_push_size _ rfl, rfl⟩, h⟩) fun obj s₁ h₁ => ?_
  exact ⟨h₁.1, F.args_object_init_2 obj _, object_init_meets RT.called_rt.init.lookup RT.called_rt.made (by decide) prog w A.in1 _ s₁ ⟨h₁.1, rfl, h₁.2⟩⟩
theorem next_rs_item {it : Addr} {x : Str} {t : Tok} {i c : Nat} {Q : Option Value → Shared → Prop} (hit : IsRs s.heap it x t (i : Int)) (hx : x.cps[i]? = some c) (hsz : x.length ≤ sizeLine)
    (hQ : ∀ h', IsRs h' it x t ((i : Int) - 1) → Heap.SameBut it s.heap h' → Q (some (.str ⟨#[c]⟩ (s.toks + 1))) { s with heap := h', toks := s.toks + 1 + 1 }) : wpAny (model prog w) A (pyNext (.ref it)) Q E s := by
  obtain ⟨o, ho, hc, hd⟩ := id hit
  have hi : i < x.length := (Array.getElem?_eq_some_iff.mp hx).1
  have hT : s.TypeIs (.str x t) "str" := typeIs_str s x t
  rw [sizeLine_eq] at hsz
  unfold pyNext
  refine wpAny_bind (wpAny_attempt (wpAny_callSpecial?_slot (name := Str.ofString "__next__") hit.typeIs RT.slot_rt_next
    (wpAny_call_entry RT.slot_rt_next hit.typeIs RT.entry_rt_next ?_ (RT.args_rt_next _))))
  unfold Builtin.«reversed.__next__»
  refine wpAny_bind (wpAny_of_eq (a := (Value.ref it, [])) rfl ?_)
  try dsimp only
  refine wpAny_bind (wpAny_field ho hd (x := .str x t) rfl ?_)
  try dsimp only
  refine wpAny_bind (wpAny_field ho hd (x := rawInt (i : Int)) rfl ?_)
  show wpAny _ _ (if (i : Int) < 0 then _ else _) _ _ s
  rw [if_neg (by omega)]
  try dsimp only
  refine wpAny_bind (wpAny_specialOf hT get_str ?_)
  try dsimp only
  try rw [if_neg (by decide)]
  try dsimp only
  refine wpAny_bind (wpAny_mkInt ?_)
  refine wpAny_bind (wpAny_attempt ?_)
  have fin : (seqIndex? (i : Int) x.length).bind (x.cps[·]?) = some c := by
    rw [seqIndex_of (by omega) (by omega)]
    exact hx
  refine P.getItem_str (s := { s with toks := s.toks + 1 }) (by simp; omega) fin ?_
  try dsimp only
  refine wpAny_bind (wpAny_field (s := { s with toks := s.toks + 1 + 1 }) ho hd (x := rawInt (i : Int)) rfl ?_)
  try dsimp only
  refine wpAny_bind (wpAny_setField (s := { s with toks := s.toks + 1 + 1 }) ho hd (by simp) ?_)
  first
  | refine wpAny_pure ⟨_, rfl, wpAny_pure (hQ _ ?_ (Heap.SameBut.update ..))⟩
  | refine wpAny_bind (wpAny_pure (wpAny_pure ⟨_, rfl, wpAny_pure (hQ _ ?_ (Heap.SameBut.update ..))⟩))
  exact ⟨_, Heap.get?_update_self _ ho (Obj.isFreed_of_fields (Obj.data_mapFields hd _)), (Obj.cls_mapFields ..).trans hc, by
    rw [Obj.data_mapFields hd]; simp⟩
theorem next_rs_end {it : Addr} {x : Str} {t : Tok} {Q : Option Value → Shared → Prop} (hh : A.handled = none) (hit : IsRs s.heap it x t (-1))
    (hQ : ∀ h', Heap.ExtBut it s.heap h' → Q none { s with heap := h' }) : wpAny (model prog w) A (pyNext (.ref it)) Q E s := by
  obtain ⟨o, ho, hc, hd⟩ := id hit
  unfold pyNext
  refine wpAny_bind (wpAny_attempt (wpAny_callSpecial?_slot (name := Str.ofString "__next__") hit.typeIs RT.slot_rt_next
    (wpAny_call_entry RT.slot_rt_next hit.typeIs RT.entry_rt_next ?_ (RT.args_rt_next _))))
  unfold Builtin.«reversed.__next__»
  refine wpAny_bind (wpAny_of_eq (a := (Value.ref it, [])) rfl ?_)
  try dsimp only
  refine wpAny_bind (wpAny_field ho hd (x := .str x t) rfl ?_)
  try dsimp only
  refine wpAny_bind (wpAny_field ho hd (x := rawInt (-1)) rfl ?_)
  show wpAny _ _ (if (-1 : Int) < 0 then _ else _) _ _ s
  rw [if_pos (by decide)]
  try dsimp only
  refine wpAny_bind (wpAny_rule ?_)
  refine wpAny_bind ?_
  wp_delta
  refine wpAny_bind (wpAny_setField ho hd (by simp) ?_)
  have ho2 := Heap.get?_update_self (Obj.mapFields (·.setIfInBounds 1 (rawInt (-1)))) ho (Obj.isFreed_of_fields (Obj.data_mapFields hd _))
  refine wpAny_setField (s := { s with heap := s.heap.update it (Obj.mapFields (·.setIfInBounds 1 (rawInt (-1)))) }) ho2 (Obj.data_mapFields hd _) (by simp) ?_
  try dsimp only
  first
  | show wpAny _ _ (newExc (.type "StopIteration") [] >>= _) _ _ _
  | (refine wpAny_bind ?_; show wpAny _ _ (newExc (.type "StopIteration") [] >>= _) _ _ _)
  | (refine wpAny_bind ?_; wp_delta; show wpAny _ _ (newExc (.type "StopIteration") [] >>= _) _ _ _)
  refine wpAny_bind ?_
  simp only [newExc, newTuple]
  refine wpAny_bind (wpAny_newObj_type ?_ (by size_fits))
  refine wpAny_bind (m := firstArgMember _ _) (wpAny_of_eq (a := Value.none) (by first | rfl | (simp only [firstArgMember]; rfl)) ?_)
  refine wpAny_newObj_type ?_ (by size_fits)
  simp only [raiseNew]
  refine wpAny_bind (wpAny_handled ?_)
  first | rw [show A.in1.handled = none from hh] | rw [hh]
  refine wpAny_bind (wpAny_pure (wpAny_throw ?_))
  refine wpAny_bind (wpAny_isInstance (T := "StopIteration") (b := true) ⟨_, Heap.get?_push_size _ rfl, rfl⟩ isSubtype_stop ?_)
  refine wpAny_pure (hQ _ ?_)
  refine ((?_ : Heap.ExtBut it s.heap _).push _).push _
  exact fun b ob hb e => (Heap.get?_update_other _ _ (Ne.symm hb)).trans ((Heap.get?_update_other _ _ (Ne.symm hb)).trans e)
theorem iter_rs {it : Addr} {x : Str} {t : Tok} {i : Int} {Q : Value → Shared → Prop} (hit : IsRs s.heap it x t i) (h : Q (.ref it) s) : wpAny (model prog w) A (pyIter (.ref it)) Q E s := by
  refine wpAny_pyIter_slot hit.typeIs RT.slot_rt_iter (wpAny_call_entry RT.slot_rt_iter hit.typeIs RT.entry_rt_iter ?_ (RT.args_rt_iter _))
  show wpAny _ _ (ret (.ref it)) _ _ s
  exact wpAny_pure ⟨_, rfl, "reversed", _, hit.typeIs, RT.slot_rt_next.lookup, h⟩
end
def ItvS (x : Str) : It := ⟨fun i _ => i < x.length, fun i H v H' => H' = H ∧ ∃ c, x.cps[x.length - 1 - i]? = some c ∧ v = .str ⟨#[c]⟩, fun i _ => x.length ≤ i⟩
theorem turn_rs {P : Program} {w : World} {K : PySem.W.Frag} {tg : Expr} (it : Addr) (x : Str) (t : Tok) (hsz : x.length ≤ sizeLine) : Turn P w K tg (ItvS x) [it] it (fun i h => i ≤ x.length ∧ IsRs h it x t ((x.length : Int) - 1 - (i : Nat))) where
  mem := by simp
  obj := fun i h st b hb => by
    have e : b = it := by simpa using hb
    subst e
    obtain ⟨_, o, e, c, d⟩ := st
    exact ⟨o, e, fun v z => by rw [d] at z; cases z⟩
  keep := fun i h h' st k => ⟨st.1, st.2.at fun o e => k it (by simp) o e⟩
  item := by
    intro X hP hw hK hc i pins s σ H E I hf st hg
    subst hP hw hK
    have hin : i < x.length := hg
    have hlt : x.length - 1 - i < x.cps.size := by have : x.length = x.cps.size := rfl; omega
    obtain ⟨c, hx⟩ : ∃ c, x.cps[x.length - 1 - i]? = some c := ⟨_, Array.getElem?_eq_getElem hlt⟩
    obtain ⟨f0, f1, f2, f3, f4, f5⟩ := hf it (by simp)
    obtain ⟨_, hit⟩ := st
    have e1 : (x.length : Int) - 1 - ((i : Nat) : Int) = ((x.length - 1 - i : Nat) : Int) := by omega
    rw [e1] at hit
    refine next_rs_item hit hx hsz fun h' st' sb => ?_
    have e2 : ((x.length - 1 - i : Nat) : Int) - 1 = (x.length : Int) - 1 - ((i + 1 : Nat) : Int) := by omega
    rw [e2] at st'
    have I1 : Inv X pins σ H { s with heap := h', toks := s.toks + 1 + 1 } := I.turned (t' := s.toks + 1 + 1) (fun b o hb e => (sb.2 b hb).trans e) f0 f1 f3 f4 f5
    obtain ⟨o, e, c', d⟩ := id st'
    exact ⟨_, rfl, go_of (s := { s with heap := h', toks := s.toks + 1 + 1 }) e c' d (by decide) ⟨.str ⟨#[c]⟩, H, I1, ⟨_, rfl⟩, ⟨rfl, c, hx, rfl⟩, ⟨hin, st'⟩, fun b hb => (hf b hb).1⟩⟩
  done := by
    intro X hP hw hK hc i pins s σ H E I hf st hg
    subst hP hw hK
    obtain ⟨f0, f1, f2, f3, f4, f5⟩ := hf it (by simp)
    obtain ⟨hin, hit⟩ := st
    have hge : x.length ≤ i := hg
    have e1 : (x.length : Int) - 1 - ((i : Nat) : Int) = -1 := by omega
    rw [e1] at hit
    exact next_rs_end (I.ok.hd hc) hit fun h' eb => ⟨rfl, I.turned (t' := s.toks) (fun b o hb e => eb b o hb e) f0 f1 f3 f4 f5⟩
  self := fun A i s Q E st h => iter_rs st.2 h
def iRevB (K : PySem.W.Frag) (te : TE) : TI := fun σ H R => te σ H fun v H1 => (∃ x : Str, v = .str x ∧ x.length ≤ sizeLine ∧ R (ItvS x) H1) ∨ ∃ (a : Addr) (xs : List V), v = .ref a ∧ ((SqL K H1 a xs ∧ R (Itv K a xs.length) H1) ∨ (SqT K H1 a xs ∧ R (RT.ItvT K a xs.length) H1))
section
variable {X : Cx} {tg : Expr}
theorem pi_revB {e : Expr} {te : TE} {p pos : Pos} (hg : Gl X "reversed") (hm : X.mg "reversed" = none) (he : PE X e te) (hs : starEach [e] X.env = (false, eval e X.env) :: starEach [] X.env := by rfl) : PI X tg (.Call (.Name "reversed" p) [e] [] pos) (iRevB X.K te) := by
  refine ⟨fun pins s σ H R I h => ?_⟩
  refine Call_ (ld_blt I hg hm PyProof.Rows.boot_reversed (PyProof.Rows.callWith_type1 (args_cons (thn (he.run pins s σ H _ I h) fun u s1 ⟨v, H1, I1, r1, q1⟩ => args_nil ?_) hs) hs rfl))
  rcases q1 with ⟨x, ev, hz, q⟩ | ⟨a, xs, ev, q⟩
  · subst ev
    obtain ⟨t, rfl⟩ := r1
    have hn := line63
    refine call_reversed_str (by omega) (iter_rs (x := x) (t := t) (i := (x.length : Int) - 1) ⟨_, Heap.get?_push_size _ rfl, rfl, rfl⟩ ?_)
    refine pi_one (tk := s1.toks + 1 + 1) I1 _ (turn_rs _ x t hz) ⟨Nat.zero_le _, ?_⟩ q
    have e1 : (x.length : Int) - 1 = (x.length : Int) - 1 - ((0 : Nat) : Int) := by omega
    rw [← e1]
    exact ⟨_, Heap.get?_push_size _ rfl, rfl, rfl⟩
  subst ev
  obtain rfl : u = Value.ref a := r1
  rcases q with ⟨hq, q⟩ | ⟨hq, q⟩
  · obtain ⟨its, rv, p', hz⟩ := I1.list hq
    have hl := rv.length
    have e1 : ((its.toArray.size : Nat) : Int) - 1 = (xs.length : Int) - 1 - ((0 : Nat) : Int) := by simp only [List.size_toArray]; omega
    refine call_reversed_list p'.isList (wpAny_pyIter_revIter (l := a) (i := ((its.toArray.size : Nat) : Int) - 1) ⟨_, Heap.get?_push_size _ rfl, rfl, rfl⟩ ?_)
    refine pi_one (tk := s1.toks) I1 _ (turn_rev a _ xs.length) ⟨Nat.zero_le _, ?_⟩ q
    rw [← e1]
    exact ⟨_, Heap.get?_push_size _ rfl, rfl, rfl⟩
  · obtain ⟨its, rv, p', hz⟩ := I1.tuple hq
    have hl := rv.length
    have hn := line63
    have e1 : ((its.toArray.size : Nat) : Int) - 1 = (xs.length : Int) - 1 - ((0 : Nat) : Int) := by simp only [List.size_toArray]; omega
    refine RT.call_reversed_tup p' (fun A E Q k => len_tuple p' (by simp only [List.size_toArray] <;> omega) k) (RT.iter_rt (t := a) (i := ((its.toArray.size : Nat) : Int) - 1) ⟨_, Heap.get?_push_size _ rfl, rfl, rfl⟩ ?_)
    refine pi_one (tk := s1.toks + 1 + 1) I1 _ (RT.turn_rt a _ xs.length) ⟨Nat.zero_le _, ?_⟩ q
    rw [← e1]
    exact ⟨_, Heap.get?_push_size _ rfl, rfl, rfl⟩
end
section
variable {J : Jn} {X : Cx} {I : Inf} {w : WX} {F Fi : FnTab} {k : Nat} {a b c e o tg iter elt : Expr} {es rest ifs : List Expr} {da db dc d_o el : DE} {dr : DA} {ta : DT} {pos p p2 : Pos} {st : Stmt} {sts sts' : List Stmt} {ds dt : DS} {di : DI} {g : GT} {vs : List Nat} {scope : Scope} {own : List (Str × Nat)}
theorem wk_list {a : Addr} {xs : List W} {gd : Sto → Prop} {S : Sto} {M : List Addr} {H : Hp} (h : ∀ S2 M2 Hs, Le S M H S2 M2 Hs → Sim I S2 M2 Hs → gd S2 → ∃ vs, SqL I.K Hs a vs ∧ RepWs I M2 (mask S2 M2 Hs) xs vs) : WalkI I (Itl I.K a) xs gd S M H where
  item := fun S2 M2 Hs H2 l s ex hg i x hx => by
    obtain ⟨vs, h1, h2⟩ := h S2 M2 Hs l s hg
    obtain ⟨v, e1, e2⟩ := paired_get h2 hx
    refine ⟨⟨vs, v, ex_l ex h1, e1⟩, fun u H3 hy => .inl ⟨hy.1, ?_⟩⟩
    have := hy.2 vs (ex_l ex h1)
    rw [e1] at this
    cases this
    exact e2
  stop := fun S2 M2 Hs H2 l s ex hg => by
    obtain ⟨vs, h1, h2⟩ := h S2 M2 Hs l s hg
    exact ⟨vs, ex_l ex h1, by rw [Paired.length h2]; exact Nat.le_refl _⟩
theorem wk_tup {a : Addr} {xs : List W} {gd : Sto → Prop} {S : Sto} {M : List Addr} {H : Hp} (h : ∀ S2 M2 Hs, Le S M H S2 M2 Hs → Sim I S2 M2 Hs → gd S2 → ∃ vs, SqT I.K Hs a vs ∧ RepWs I M2 (mask S2 M2 Hs) xs vs) : WalkI I (Itt I.K a) xs gd S M H where
  item := fun S2 M2 Hs H2 l s ex hg i x hx => by
    obtain ⟨vs, h1, h2⟩ := h S2 M2 Hs l s hg
    obtain ⟨v, e1, e2⟩ := paired_get h2 hx
    refine ⟨⟨vs, v, ex_t ex h1, e1⟩, fun u H3 hy => .inl ⟨hy.1, ?_⟩⟩
    have := hy.2 vs (ex_t ex h1)
    rw [e1] at this
    cases this
    exact e2
  stop := fun S2 M2 Hs H2 l s ex hg => by
    obtain ⟨vs, h1, h2⟩ := h S2 M2 Hs l s hg
    exact ⟨vs, ex_t ex h1, by rw [Paired.length h2]; exact Nat.le_refl _⟩
theorem wk_str {z : Str} {gd : Sto → Prop} {S : Sto} {M : List Addr} {H : Hp} : WalkI I (Its z) (z.cps.toList.map fun c => .d (.str ⟨#[c]⟩)) gd S M H where
  item := fun S2 M2 Hs H2 l s ex hg i x hx => by
    rw [List.getElem?_map] at hx
    cases q : z.cps.toList[i]? with
    | none => rw [q] at hx; cases hx
    | some c =>
      rw [q] at hx
      have hx : W.d (.str ⟨#[c]⟩) = x := by simpa using hx
      subst hx
      have q' : z.cps[i]? = some c := by rw [← Array.getElem?_toList]; exact q
      refine ⟨(Array.getElem?_eq_some_iff.mp q').1, fun u H3 hy => .inl ⟨hy.1, ?_⟩⟩
      obtain ⟨c', e1, rfl⟩ := hy.2
      rw [q'] at e1
      cases e1
      exact .str _
  stop := fun S2 M2 Hs H2 l s ex hg => by
    show z.cps.size ≤ _
    simp
theorem rng_get {lo : Int} {n : Nat} {i : Nat} {x : W} {f : Nat → Int} (h : ((List.range n).map fun (i : Nat) => W.d (.int (f i)))[i]? = some x) : i < n ∧ x = .d (.int (f i)) := by
  rw [List.getElem?_map] at h
  by_cases hi : i < n
  · rw [List.getElem?_range hi] at h
    exact ⟨hi, by simpa using h.symm⟩
  · rw [List.getElem?_eq_none (by simpa using hi)] at h
    cases h
theorem wk_range {lo hi : Int} {gd : Sto → Prop} {S : Sto} {M : List Addr} {H : Hp} : WalkI I (Itr lo (hi - lo).toNat) (rng lo hi) gd S M H where
  item := fun S2 M2 Hs H2 l s ex hg i x hx => by
    obtain ⟨h1, rfl⟩ := rng_get (lo := lo) (f := fun i => lo + i) hx
    refine ⟨h1, fun u H3 hy => .inl ⟨hy.1, ?_⟩⟩
    rw [hy.2]
    exact .int _
  stop := fun S2 M2 Hs H2 l s ex hg => by
    show _ ≤ _
    simp [rng]
theorem wk_rangeD {lo hi : Int} {gd : Sto → Prop} {S : Sto} {M : List Addr} {H : Hp} : WalkI I (Itc lo (-1) (lo - hi).toNat) (rngD lo hi) gd S M H where
  item := fun S2 M2 Hs H2 l s ex hg i x hx => by
    obtain ⟨h1, rfl⟩ := rng_get (lo := lo) (f := fun i => lo - i) hx
    refine ⟨h1, fun u H3 hy => .inl ⟨hy.1, ?_⟩⟩
    rw [hy.2]
    have : lo + (i : Nat) * (-1 : Int) = lo - (i : Nat) := by omega
    rw [this]
    exact .int _
  stop := fun S2 M2 Hs H2 l s ex hg => by
    show _ ≤ _
    simp [rngD]
/-- an iterator over what a value is -/
theorem iter_any {pins : List (Addr × Obj)} {σ : L2.St} {H : Hp} {s : Shared} {x : W} {v : V} {u : Value} {S : Sto} {M : List Addr} {R : It → Hp → Prop} {E : Value → Shared → Prop} {q : List W × (Sto → Prop)} (In : Inv X pins σ H s) (rv : RelV v u) (sim : Sim ⟨X.K, I.G, I.fl, I.X, I.ex⟩ S M H) (rx : RepW ⟨X.K, I.G, I.fl, I.X, I.ex⟩ M (mask S M H) x v) (e : itemsOf x S = some q)
    (k : ∀ J, WalkI ⟨X.K, I.G, I.fl, I.X, I.ex⟩ J q.1 q.2 S M H → R J H) : wpAny (model X.prog X.w) X.A (pyIter u) (PIE X pins σ tg R) E s := by
  have lst : ∀ {a : Addr} {xs : List V}, SqL X.K H a xs → R (Itl X.K a) H → wpAny (model X.prog X.w) X.A (pyIter (.ref a)) (PIE X pins σ tg R) E s := fun {a xs} hq q => by
    obtain ⟨its, rv, p, hz⟩ := In.list hq
    refine wpAny_pyIter_list p.isList ?_
    refine ⟨s.heap.objs.size, [s.heap.objs.size], _, _, H, rfl, In.kept (t' := s.toks) fun b o e => Heap.get?_push_of_some _ e, turn_list a _, ⟨_, Heap.get?_push_size _ rfl, rfl, rfl⟩, fun b hb => ?_, q⟩
    have e : b = s.heap.objs.size := by simpa using hb
    subst e
    exact In.fpOk (Nat.le_refl _) (In.hok.fresh (Nat.le_refl _))
  unfold itemsOf at e
  split at e
  · cases e
    cases rx
    obtain ⟨t, rfl⟩ := rv
    rename_i z
    cases ha : z.cps.all (· < 128)
    · exact wpAny_pyIter_wide ha (pi_one (tk := s.toks) In _ (turn_str _ z t "str_iterator" (.inr rfl)) ⟨_, Heap.get?_push_size _ rfl, rfl, rfl⟩ (k _ wk_str))
    · exact wpAny_pyIter_ascii ha (pi_one (tk := s.toks) In _ (turn_str _ z t "str_ascii_iterator" (.inl rfl)) ⟨_, Heap.get?_push_size _ rfl, rfl, rfl⟩ (k _ wk_str))
  · cases e
    cases rx with
    | tup h r =>
    cases rv
    rename_i a vs
    obtain ⟨its, rv, p, hz⟩ := In.tuple (ex_t mask_ex h)
    refine wpAny_pyIter_tuple (show s.heap.IsTuple a its.toArray from p) ?_
    refine ⟨s.heap.objs.size, [s.heap.objs.size], _, _, H, rfl, In.kept (t' := s.toks) fun b o e => Heap.get?_push_of_some _ e, turn_tuple a _, ⟨_, Heap.get?_push_size _ rfl, rfl, rfl⟩, fun b hb => ?_,
      k _ (wk_tup fun S2 M2 Hs l s2 _ => ⟨vs, ex_t ((l.ex).trans mask_ex) h, reps_map (r.mono l.ex)⟩)⟩
    have e : b = s.heap.objs.size := by simpa using hb
    subst e
    exact In.fpOk (Nat.le_refl _) (In.hok.fresh (Nat.le_refl _))
  · cases e
    cases rx with
    | lst h r =>
    cases rv
    exact lst (.inl (.inl (mask_ex _ _ h))) (k _ (wk_list fun S2 M2 Hs l s2 _ => ⟨_, .inl (.inl (mask_ex _ _ (l.ex _ _ h))), reps_map (r.mono l.ex)⟩))
  · cases e
    cases rx with
    | lsx h r =>
    cases rv
    exact lst (ex_l mask_ex h) (k _ (wk_list fun S2 M2 Hs l s2 _ => ⟨_, ex_l ((l.ex).trans mask_ex) h, reps_map (r.mono l.ex)⟩))
  · split at e
    · rename_i ws hc
      cases e
      obtain ⟨a, ea, rfl⟩ := rx
      cases rv
      obtain ⟨vs, ho, q⟩ := sim.cell _ _ a hc ea
      refine lst (.inl (.inl ho)) (k _ (wk_list fun S2 M2 Hs l s2 hg => ?_))
      obtain ⟨vs2, ho2, q2⟩ := s2.cell _ _ a hg (pre_get l.pre ea)
      exact ⟨vs2, .inl (.inl ho2), q2⟩
    · cases e
  · cases e
theorem si_any (he : PE X e (rdE ⟨X.K, I.G, I.fl, I.X, I.ex⟩ w da)) : PI X tg e (rdI ⟨X.K, I.G, I.fl, I.X, I.ex⟩ w (iAny da)) := by
  refine ⟨fun pins s σ H R In ⟨env, S, M, sim, sl, p⟩ => ?_⟩
  have q : rdE ⟨X.K, I.G, I.fl, I.X, I.ex⟩ w da σ H (fun v H' => ∃ (x : W) (S' : Sto) (M' : List Addr) (q : List W × (Sto → Prop)), Sim ⟨X.K, I.G, I.fl, I.X, I.ex⟩ S' M' H' ∧ RepW ⟨X.K, I.G, I.fl, I.X, I.ex⟩ M' (mask S' M' H') x v ∧ itemsOf x S' = some q ∧ ∀ J, WalkI ⟨X.K, I.G, I.fl, I.X, I.ex⟩ J q.1 q.2 S' M' H' → R J H') := by
    refine ⟨env, S, M, sim, sl, ?_⟩
    dsimp only [iAny] at p
    generalize da env S = r at p ⊢
    cases r with
    | bad => exact p
    | exc c x S1 => exact p
    | ok x S1 =>
      intro v H' M' l s' r
      dsimp only [Py.R.bind] at p
      cases hq : itemsOf x S1 with
      | none => rw [hq] at p; exact p.elim
      | some q =>
        rw [hq] at p
        exact ⟨x, _, M', q, s', r, hq, fun J wk => p J H' M' l s' wk⟩
  exact thn (he.run pins s σ H _ In q) fun u s1 ⟨v, H1, I1, rv, x, S', M', q, s', r, e, k⟩ => iter_any I1 rv s' r e k
theorem sm_of {i : Int} (h : smallI i = true) : -(2 ^ 62) ≤ i ∧ i < 2 ^ 62 := by
  simpa using h
/-- what an ending asks of a walk -/
def EndI (I : Inf) (S : Sto) (M : List Addr) (H : Hp) (R : It → Hp → Prop) (E : XK) : Py.R (List W × (Sto → Prop)) → Prop
  | .ok p S' => ∀ (J : It) (H' : Hp) (M' : List Addr), Le S M H S' M' H' → Sim I S' M' H' → WalkI I J p.1 p.2 S' M' H' → R J H'
  | .exc c x S' => ∀ (cls : Value) (dd : Option Addr) (H' : Hp) (M' : List Addr), Le S M H S' M' H' → Sim I S' M' H' → RepX I (mask S' M' H') c x cls dd → E cls dd H'
  | .bad => False
theorem EndI.up {S S1 : Sto} {M M1 : List Addr} {H H1 : Hp} {R : It → Hp → Prop} {E : XK} {r : Py.R (List W × (Sto → Prop))} (h : EndI I S M H R E r) (l : Le S M H S1 M1 H1) : EndI I S1 M1 H1 R E r := by
  cases r with
  | ok a S' => exact fun J H' M' l' => h J H' M' (l.trans l')
  | exc c x S' => exact fun cls dd H' M' l' => h cls dd H' M' (l.trans l')
  | bad => exact h
theorem rdI_at {σ : L2.St} {env : Env} {S : Sto} {M : List Addr} {H : Hp} {R : It → Hp → Prop} {f : W → Sto → Py.R (List W × (Sto → Prop))} {P : V → Hp → Prop} (s : Sim I S M H) (sl : Slots I M (mask S M H) env σ) (p : EndI I S M H R (fun cls dd H' => w cls dd σ H') ((da env S).bind f))
    (k : ∀ (x : W) (v : V) (S1 : Sto) (M1 : List Addr) (H1 : Hp), Le S M H S1 M1 H1 → Sim I S1 M1 H1 → Slots I M1 (mask S1 M1 H1) env σ → RepW I M1 (mask S1 M1 H1) x v → EndI I S1 M1 H1 R (fun cls dd H' => w cls dd σ H') (f x S1) → P v H1) : rdE I w da σ H P := by
  refine ⟨env, S, M, s, sl, ?_⟩
  generalize da env S = r at p ⊢
  cases r with
  | ok x S1 => exact fun v H' M' l' s' r' => k x v S1 M' H' l' s' (sl.mono l') r' (EndI.up (r := f x S1) p l')
  | exc c x S1 => exact p
  | bad => exact p
theorem EndI.of {S : Sto} {M : List Addr} {H : Hp} {R : It → Hp → Prop} {E : XK} {o : Option (List W × (Sto → Prop))} (h : EndI I S M H R E (ofO o S)) (s : Sim I S M H) : ∃ p, o = some p ∧ ∀ J, WalkI I J p.1 p.2 S M H → R J H := by
  cases o with
  | none => exact h.elim
  | some p => exact ⟨p, rfl, fun J wk => h J H M Le.refl s wk⟩
theorem si_range1 (t : Cok J X w F Fi k) (hb : J.sg.blt "range" = true) (ha : PE X a (rdE (J.inf X.K) w da)) (hg : Gl X "range" := by rfl) (hs : starEach [a] X.env = [(false, eval a X.env)] := by rfl) (hs' : starEach [a] X.env = (false, eval a X.env) :: starEach [] X.env := by rfl) : PI X tg (.Call (.Name "range" p) [a] [] pos) (rdI (J.inf X.K) w (iRange1 da)) :=
  PI_imp (pi_range1 hg (t.glb _ hb) (pa_cons ha pa_nil hs') hs) fun σ H R ⟨env, S, M, sim, sl, p⟩ => by
    show rdE (J.inf X.K) w da σ H fun x H1 => ∃ j : Int, [x] = [.int j] ∧ -(2 ^ 62) ≤ j ∧ j < 2 ^ 62 ∧ R (Itr 0 j.toNat) H1
    refine rdI_at (R := R) (f := fun x S1 => ofO (rg1 x) S1) sim sl p fun x v S1 M1 H1 l1 s1 sl1 r1 p1 => ?_
    obtain ⟨q, hq, kk⟩ := EndI.of p1 s1
    unfold rg1 at hq
    split at hq
    · rename_i n
      split at hq
      · rename_i hn
        cases hq
        cases r1
        have wk : WalkI (J.inf X.K) (Itr 0 (n - 0).toNat) (rng 0 n) (fun _ => True) S1 M1 H1 := wk_range
        rw [Int.sub_zero] at wk
        exact ⟨n, rfl, (sm_of hn).1, (sm_of hn).2, kk _ wk⟩
      · cases hq
    · cases hq
theorem si_range2 (t : Cok J X w F Fi k) (hb : J.sg.blt "range" = true) (ha : PE X a (rdE (J.inf X.K) w da)) (hb' : PE X b (rdE (J.inf X.K) w db)) (hg : Gl X "range" := by rfl) (hs : starEach [a, b] X.env = [(false, eval a X.env), (false, eval b X.env)] := by rfl) (hs2 : starEach [b] X.env = [(false, eval b X.env)] := by rfl)
    (hs' : starEach [a, b] X.env = (false, eval a X.env) :: starEach [b] X.env := by rfl) (hs2' : starEach [b] X.env = (false, eval b X.env) :: starEach [] X.env := by rfl) : PI X tg (.Call (.Name "range" p) [a, b] [] pos) (rdI (J.inf X.K) w (iRange2 da db)) :=
  PI_imp (pi_range2 hg (t.glb _ hb) (pa_cons ha (pa_cons hb' pa_nil hs2') hs') hs hs2) fun σ H R ⟨env, S, M, sim, sl, p⟩ => by
    show rdE (J.inf X.K) w da σ H fun x H1 => rdE (J.inf X.K) w db σ H1 fun y H2 => ∃ i j : Int, [x, y] = [.int i, .int j] ∧ (-(2 ^ 62) ≤ i ∧ i < 2 ^ 62 ∧ -(2 ^ 62) ≤ j ∧ j < 2 ^ 62) ∧ R (Itr i (j - i).toNat) H2
    refine rdI_at (R := R) (f := fun x S1 => (db env S1).bind fun y S2 => ofO (rg2 x y) S2) sim sl p fun x v S1 M1 H1 l1 s1 sl1 r1 p1 => ?_
    refine rdI_at (R := R) (f := fun y S2 => ofO (rg2 x y) S2) s1 sl1 p1 fun y u S2 M2 H2 l2 s2 sl2 r2 p2 => ?_
    obtain ⟨q, hq, kk⟩ := EndI.of p2 s2
    unfold rg2 at hq
    split at hq
    · rename_i m n
      split at hq
      · rename_i hn
        cases hq
        cases r1
        cases r2
        exact ⟨m, n, rfl, ⟨(sm_of hn.1).1, (sm_of hn.1).2, (sm_of hn.2).1, (sm_of hn.2).2⟩, kk _ wk_range⟩
      · cases hq
    · cases hq
theorem si_range3 (t : Cok J X w F Fi k) (hb : J.sg.blt "range" = true) (ha : PE X a (rdE (J.inf X.K) w da)) (hb' : PE X b (rdE (J.inf X.K) w db)) (hc' : PE X c (rdE (J.inf X.K) w dc)) (hg : Gl X "range" := by rfl)
    (hs : starEach [a, b, c] X.env = (false, eval a X.env) :: starEach [b, c] X.env := by rfl) (hpl : (backTo pos (starEach [b, c] X.env)).any (·.1) = false := by rfl)
    (hs2' : starEach [b, c] X.env = (false, eval b X.env) :: starEach [c] X.env := by rfl) (hs3' : starEach [c] X.env = (false, eval c X.env) :: starEach [] X.env := by rfl) : PI X tg (.Call (.Name "range" p) [a, b, c] [] pos) (rdI (J.inf X.K) w (iRange3 da db dc)) :=
  PI_imp (pi_range3 hg (t.glb _ hb) (pa_cons ha (pa_cons hb' (pa_cons hc' pa_nil hs3') hs2') hs) hs hpl) fun σ H R ⟨env, S, M, sim, sl, p⟩ => by
    show rdE (J.inf X.K) w da σ H fun x H1 => rdE (J.inf X.K) w db σ H1 fun y H2 => rdE (J.inf X.K) w dc σ H2 fun z H3 => ∃ (i j c : Int) (n : Nat), [x, y, z] = [.int i, .int j, .int c] ∧ RgC i j c n ∧ R (Itc i c n) H3
    refine rdI_at (R := R) (f := fun x S1 => (db env S1).bind fun y S2 => (dc env S2).bind fun z S3 => ofO (rg3 x y z) S3) sim sl p fun x v S1 M1 H1 l1 s1 sl1 r1 p1 => ?_
    refine rdI_at (R := R) (f := fun y S2 => (dc env S2).bind fun z S3 => ofO (rg3 x y z) S3) s1 sl1 p1 fun y u S2 M2 H2 l2 s2 sl2 r2 p2 => ?_
    refine rdI_at (R := R) (f := fun z S3 => ofO (rg3 x y z) S3) s2 sl2 p2 fun z uz S3 M3 H3 l3 s3 sl3 r3 p3 => ?_
    obtain ⟨q, hq, kk⟩ := EndI.of p3 s3
    unfold rg3 at hq
    split at hq
    · rename_i m n o
      split at hq
      · rename_i hn
        obtain ⟨h1, h2, rfl⟩ := hn
        cases hq
        cases r1
        cases r2
        cases r3
        exact ⟨m, n, -1, _, rfl, RgC.neg (sm_of h1).1 (sm_of h1).2 (sm_of h2).1 (sm_of h2).2, kk _ wk_rangeD⟩
      · cases hq
    · cases hq
/-! ### comprehensions -/
theorem PTs_imp {ifs : List Expr} {t t' : TT} (h : PTs X ifs t) (i : ∀ σ H Q, t' σ H Q → t σ H Q) : PTs X ifs t' := ⟨fun pins s σ H Q I q => h.run pins s σ H Q I (i σ H Q q)⟩
theorem sts_nil : PTs X [] (rdT I w tYesD) := PTs_imp pts_nil fun σ H Q ⟨e, S, M, s, sl, p⟩ => EndR.here (rel := fun _ _ a b => a = b) p s rfl
theorem sts_one (h : PT X a (rdT I w ta)) : PTs X [a] (rdT I w ta) := pts_one h
theorem sx_comp (t : Cok J X w F Fi k) (hi : PI X tg iter (rdI I w di)) (hv : ∀ i ∈ vs, i ∈ own.map (·.2)) (ok : BlkOk X.N X.env.scope scope own)
    (hg : ∀ (s : Shared) (H : Hp) (C : Addr) (cl : List (Str × Addr)) (fp : List Addr), PG (X.blk s H scope (compEnvC scope cl C X.env) fp) tg (rdG I g vs)) (ht : ∀ (s : Shared) (H : Hp) (C : Addr) (cl : List (Str × Addr)) (fp : List Addr), PTs (X.blk s H scope (compEnvC scope cl C X.env) fp) ifs (rdT I w0 ta))
    (he : ∀ (s : Shared) (H : Hp) (C : Addr) (cl : List (Str × Addr)) (fp : List Addr), PE (X.blk s H scope (compEnvC scope cl C X.env) fp) elt (rdE I w0 el)) (hs : ∀ x, foldedSetIterable iter X.env x = pure x := by intro _; rfl) :
    PE X (.ListComp elt [⟨tg, iter, ifs, 0⟩] scope pos) (rdE I w (dComp (own.map (·.2)) g di ta el)) :=
  PE_imp (pe_lc t.calm t.nd hi ok (fun s H C cl fp => PG_aside (hg s H C cl fp)) (fun s H C cl fp => PTs_aside (ht s H C cl fp)) (fun s H C cl fp => PE_aside (he s H C cl fp)) hs) fun σ H Q q => comp_rd .plain hv q
theorem sx_compC (t : Cok J X w F Fi k) (hi : PI X tg iter (rdI I w di)) (hv : ∀ i ∈ vs, i ∈ own.map (·.2)) (ok : BlkOk X.N X.env.scope scope own)
    (hg : ∀ (s : Shared) (H : Hp) (C : Addr) (cl : List (Str × Addr)) (fp : List Addr), PG (X.blk s H scope (compEnvC scope cl C X.env) fp) tg (rdG I g vs)) (ht : ∀ (s : Shared) (H : Hp) (C : Addr) (cl : List (Str × Addr)) (fp : List Addr), PTs (X.blk s H scope (compEnvC scope cl C X.env) fp) ifs (rdT I w0 ta))
    (he : ∀ (s : Shared) (H : Hp) (C : Addr) (cl : List (Str × Addr)) (fp : List Addr), PE (X.blk s H scope (compEnvC scope cl C X.env) fp) elt (rdE I w0 el)) (hs : ∀ x, foldedSetIterable iter X.env x = pure x := by intro _; rfl) :
    PE X (.ListComp elt [⟨tg, iter, ifs, 0⟩] scope pos) (rdE I w (dCompC (own.map (·.2)) g di ta el)) :=
  PE_imp (pe_lc t.calm t.nd hi ok (fun s H C cl fp => PG_aside (hg s H C cl fp)) (fun s H C cl fp => PTs_aside (ht s H C cl fp)) (fun s H C cl fp => PE_aside (he s H C cl fp)) hs) fun σ H Q q => comp_rd .cell hv q
/-- y = [..] -/
theorem ss_comp {i : Nat} {y : Str} {py spos : Pos} {fin : List W → Sto → Py.R W} (c : CFin I fin) (t : Cok J X w F Fi k) (hi : PI X tg iter (rdI I w di)) (hv : ∀ i ∈ vs, i ∈ own.map (·.2)) (ok : BlkOk X.N X.env.scope scope own)
    (hg : ∀ (s : Shared) (H : Hp) (C : Addr) (cl : List (Str × Addr)) (fp : List Addr), PG (X.blk s H scope (compEnvC scope cl C X.env) fp) tg (rdG I g vs)) (ht : ∀ (s : Shared) (H : Hp) (C : Addr) (cl : List (Str × Addr)) (fp : List Addr), PTs (X.blk s H scope (compEnvC scope cl C X.env) fp) ifs (rdT I w0 ta))
    (he : ∀ (s : Shared) (H : Hp) (C : Addr) (cl : List (Str × Addr)) (fp : List Addr), PE (X.blk s H scope (compEnvC scope cl C X.env) fp) elt (rdE I w0 el))
    (hy : X.N[i]? = some y := by rfl) (hyl : X.env.scope.names.lookup y = some .local := by rfl)
    (hsw : swapsWith (.ListComp elt [⟨tg, iter, ifs, 0⟩] scope pos) (some (.Name y py)) spos.line X.env = pure true := by exact sw_true rfl rfl rfl (by decide +kernel)) (hs : ∀ x, foldedSetIterable iter X.env x = pure x := by intro _; rfl) :
    PS X (.Assign [.Name y py] (.ListComp elt [⟨tg, iter, ifs, 0⟩] scope pos) spos) (rdS I w (sAsg (fun e S => (di e S).bind fun p S1 => (compL g ta el p.2 (uns (own.map (·.2)) e) p.1 S1).bind fin) (gNm i))) :=
  PS_imp (ps_setLc t.calm t.nd hy hyl hsw hi ok (fun s H C cl fp => PG_aside (hg s H C cl fp)) (fun s H C cl fp => PTs_aside (ht s H C cl fp)) (fun s H C cl fp => PE_aside (he s H C cl fp)) hs) fun D σ H q => by
    refine comp_rd c hv ?_
    exact rdS_one (f := fun e x S1 => .nx (e.set i (some x)) S1) q fun x v e S M H s sl r p => p _ H M Le.refl s (sl.set r)
theorem lookup_relabel {env : PySem.Env} {x : Str} {k : NameKind} : ∀ {names : List (Str × NameKind)}, names.lookup x = some k → (names.map fun (n, k) => if (k == NameKind.free && env.scope.kind == .function && env.kindOf n == some .cell) then (n, NameKind.cell) else (n, k)).lookup x = some k ∨ (names.map fun (n, k) => if (k == NameKind.free && env.scope.kind == .function && env.kindOf n == some .cell) then (n, NameKind.cell) else (n, k)).lookup x = some .cell
  | [], h => by simp at h
  | (n, k') :: r, h => by
    have ih := lookup_relabel (env := env) (x := x) (k := k) (names := r)
    rw [List.map_cons]
    dsimp only
    cases hx : x == n with
    | true =>
      rw [List.lookup_cons, hx] at h
      cases h
      split
      · exact .inr (by rw [List.lookup_cons, hx])
      · exact .inl (by rw [List.lookup_cons, hx])
    | false =>
      rw [List.lookup_cons, hx] at h
      have := ih h
      split <;> (rw [List.lookup_cons, hx]; exact this)
theorem blkOk_in {N : List Str} {sc scope : Scope} {own : List (Str × Nat)} {env : PySem.Env} (h : BlkOk N sc scope own) : BlkOk N (relabel sc env) scope own :=
  ⟨h.kind, h.uniq, h.ix, fun y hy e => by
    rcases h.free y hy e with q | q
    · rcases lookup_relabel (env := env) q with q | q <;> exact .inl q
    · rcases lookup_relabel (env := env) q with q | q
      · exact .inr q
      · exact .inl q, h.own⟩
/-! zip of a tuple and a list -/
theorem draws_list {prog : Program} {w : World} {A : Around} (hh : A.handled = none) (it t : Addr) (hne : t ≠ it) (items : Array Value) :
    Draws prog w A it [it, t] items.size (fun i v => items[i]? = some v) (fun i h => h.IsListIter it t i ∧ h.IsList t items) where
  live := fun _ _ st => let ⟨o, ho, _⟩ := st.1; ⟨o, ho⟩
  frame := fun _ _ _ st hk => ⟨st.1.at fun o e => hk it (by simp) o e, st.2.at fun o e => hk t (by simp) o e⟩
  item := fun i s Q E hi st hQ => by
    refine wpAny_nextOf_list_item st.1 st.2 (x := items[i]) (by simp [hi]) fun h' hit' hs' => ?_
    exact hQ _ h' s.toks (by simp [hi]) ⟨hit', st.2.extBut hs'.extBut hne⟩ hs'
  done := fun s Q E st hE => wpAny_nextOf_list_end hh st.1 st.2 (by simp) hE
/-- the tuple at a and the list at b as they stand at each turn, the items in new pairs -/
def ItzM (K : PySem.W.Frag) (a b : Addr) : It :=
  ⟨fun i H => ∃ (xs ys : List V) (x y : V), SqT K H a xs ∧ SqL K H b ys ∧ xs[i]? = some x ∧ ys[i]? = some y,
    fun i H v H' => ∃ T x y, v = .ref T ∧ H T = none ∧ H' = upd H T (.tup [x, y]) ∧ (∀ xs, SqT K H a xs → xs[i]? = some x) ∧ ∀ ys, SqL K H b ys → ys[i]? = some y,
    fun i H => ∃ xs ys : List V, SqT K H a xs ∧ SqL K H b ys ∧ i = min xs.length ys.length⟩
theorem turn_zipM {P : Program} {w : World} {K : PySem.W.Frag} {elts : List Expr} {kk : Nat} {tpos : Pos} {a b z TI TO i1 i2 : Addr} (D : ZipSep2 z TI TO i1 i2 [i1, a] [i2, b]) (ha1 : a ≠ i1) (hb2 : b ≠ i2) :
    Turn P w K (.Tuple elts kk tpos) (ItzM K a b) [z, TI, TO, i1, i2] z (fun i h => IsZip h z TI TO .none ∧ IsPair h TI (.ref i1) (.ref i2) ∧ (∃ x y, IsPair h TO x y) ∧ h.IsTupleIter i1 a i ∧ h.IsListIter i2 b i) where
  mem := by simp
  obj := fun i h st c hc => by
    obtain ⟨hz, hTI, ⟨x, y, hTO⟩, ⟨o1, e1, _, d1⟩, ⟨o2, e2, _, d2⟩⟩ := st
    have e' : c = z ∨ c = TI ∨ c = TO ∨ c = i1 ∨ c = i2 := by simpa using hc
    rcases e' with q | q | q | q | q
    · rw [q]; exact ⟨_, hz, fun v q => nomatch q⟩
    · rw [q]; exact ⟨_, hTI, fun v q => nomatch q⟩
    · rw [q]; exact ⟨_, hTO, fun v q => nomatch q⟩
    · rw [q]; exact ⟨o1, e1, fun v q => by rw [d1] at q; cases q⟩
    · rw [q]; exact ⟨o2, e2, fun v q => by rw [d2] at q; cases q⟩
  keep := fun i h h' st k => by
    obtain ⟨hz, hTI, ⟨x, y, hTO⟩, h1, h2⟩ := st
    exact ⟨k z (by simp) _ hz, k TI (by simp) _ hTI, ⟨x, y, k TO (by simp) _ hTO⟩, h1.at fun o q => k i1 (by simp) o q, h2.at fun o q => k i2 (by simp) o q⟩
  item := by
    intro X hP hw hK hc i pins s σ H E In hf st hg
    subst hP hw hK
    obtain ⟨hz, hTI, ⟨x0, y0, hTO⟩, h1, h2⟩ := st
    obtain ⟨xs, ys, x, y, hqx, hqy, hx, hy⟩ := hg
    obtain ⟨its, rv, p, _⟩ := In.tuple hqx
    obtain ⟨its2, rv2, p2, _⟩ := In.list hqy
    obtain ⟨u, hu, ru⟩ := rv.get hx
    obtain ⟨u2, hu2, ru2⟩ := rv2.get hy
    have hzl : z < s.heap.objs.size := Heap.lt_size hz
    have hlt : i < its.toArray.size := by
      have := (List.getElem?_eq_some_iff.mp hu).1
      simpa using this
    have hlt2 : i < its2.toArray.size := by
      have := (List.getElem?_eq_some_iff.mp hu2).1
      simpa using this
    refine wpAny_pyNext_zipD2_item D (Draws.tuple (A := X.A.in1) (In.ok.hd hc) i1 a ha1 its.toArray) (draws_list (A := X.A.in1) (In.ok.hd hc) i2 b hb2 its2.toArray) hz hTI hTO ⟨h1, p⟩ ⟨h2, p2.isList⟩ hlt hlt2 fun x1 x2 h' tk hx1 hx2 z' TO' h1' h2' hT hsz hk => ?_
    obtain rfl : x1 = u := by
      have hy : its.toArray[i]? = some x1 := hx1
      rw [List.getElem?_toArray, hu] at hy
      exact (Option.some.inj hy).symm
    obtain rfl : x2 = u2 := by
      have hy : its2.toArray[i]? = some x2 := hx2
      rw [List.getElem?_toArray, hu2] at hy
      exact (Option.some.inj hy).symm
    obtain ⟨h1', _⟩ := h1'
    obtain ⟨h2', _⟩ := h2'
    refine ⟨_, rfl, wpAny_letOwnedTupleGo_zip (s := { s with heap := h', toks := tk }) z' fun h'' z'' sb => ?_⟩
    have hT2 : h''.get? s.heap.objs.size = some { cls := .type "tuple", data := .seq #[x1, x2] } := (sb.2 _ (Nat.ne_of_gt hzl)).trans hT
    have new : ObjOk X.prog X.w (upd H s.heap.objs.size (.tup [x, y])) h'' s.heap.objs.size (.tup [x, y]) :=
      ⟨by show 2 ≤ sizeLine; decide, [x1, x2], .cons ru (.cons ru2 .nil), ⟨_, hT2, rfl, _, rfl⟩⟩
    have I1 : Inv X pins σ (upd H s.heap.objs.size (.tup [x, y])) { s with heap := h'', toks := tk } :=
      In.turnedNew (t' := tk) (ch := [z, TI, TO, i1, i2]) (fun c o hb q => (sb.2 c (fun q' => hb (by simp [q']))).trans (hk c o (fun q' => hb (by simp [q'])) (fun q' => hb (by simp [q'])) (fun q' => hb (by simp [q'])) (fun q' => hb (by simp [q'])) q)) hf (Nat.le_refl _) new
    refine ⟨.ref s.heap.objs.size, _, I1, rfl, ⟨_, x, y, rfl, In.hok.fresh (Nat.le_refl _), rfl, fun l hl => by rw [In.tuple_inj hl hqx]; exact hx, fun l hl => by rw [In.list_inj hl hqy]; exact hy⟩, ⟨z'', ?_, ⟨x1, x2, ?_⟩, ?_, ?_⟩, fun c hcm => ?_⟩
    · exact (sb.2 _ D.TIz).trans (hk _ _ D.TIz D.TITO D.TIi1 D.TIi2 hTI)
    · exact (sb.2 _ D.TOz).trans TO'
    · exact h1'.at fun o q => (sb.2 _ (Ne.symm D.zi1)).trans q
    · exact h2'.at fun o q => (sb.2 _ (Ne.symm D.zi2)).trans q
    · have hlt : c < s.heap.objs.size := by
        have e' : c = z ∨ c = TI ∨ c = TO ∨ c = i1 ∨ c = i2 := by simpa using hcm
        rcases e' with q | q | q | q | q
        · rw [q]; exact hzl
        · rw [q]; exact Heap.lt_size hTI
        · rw [q]; exact Heap.lt_size hTO
        · rw [q]; obtain ⟨_, e1, _⟩ := h1; exact Heap.lt_size e1
        · rw [q]; obtain ⟨_, e2, _⟩ := h2; exact Heap.lt_size e2
      rw [upd_ne (Nat.ne_of_lt hlt)]
      exact (hf c hcm).1
  done := by
    intro X hP hw hK hc i pins s σ H E In hf st hg
    subst hP hw hK
    obtain ⟨hz, hTI, ⟨x0, y0, hTO⟩, h1, h2⟩ := st
    obtain ⟨xs, ys, hqx, hqy, hend⟩ := hg
    obtain ⟨its, rv, p, _⟩ := In.tuple hqx
    obtain ⟨its2, rv2, p2, _⟩ := In.list hqy
    have l1 := rv.length
    have l2 := rv2.length
    have e1 : its.toArray.size = its.length := by simp
    have e2 : its2.toArray.size = its2.length := by simp
    exact wpAny_pyNext_zipD2_end D (Draws.tuple (A := X.A.in1) (In.ok.hd hc) i1 a ha1 its.toArray) (draws_list (A := X.A.in1) (In.ok.hd hc) i2 b hb2 its2.toArray) hz hTI hTO ⟨h1, p⟩ ⟨h2, p2.isList⟩ (by omega) (by omega) (by omega) fun h' tk hk => ⟨rfl, In.turnedL (t' := tk) (ch := [z, TI, TO, i1, i2]) (fun c o hb q =>
      hk c o (fun q' => hb (by simp [q'])) (fun q' => hb (by simp [q'])) (fun q' => hb (by simp [q'])) (fun q' => hb (by simp [q'])) q) hf⟩
  self := fun A i s Q E st h => wpAny_pyIter_zip st.1 h
abbrev zmH1 (h : Heap) (l1 : Addr) : Heap := h.push { cls := .type "tuple_iterator", data := .fields #[.ref l1, .int 0 0] }
abbrev zmH2 (h : Heap) (l1 l2 : Addr) : Heap := (zmH1 h l1).push { cls := .type "list_iterator", data := .fields #[.ref l2, .int 0 0] }
abbrev zmH3 (h : Heap) (l1 l2 : Addr) : Heap := (zmH2 h l1 l2).push { cls := .type "tuple", data := .seq #[.ref h.objs.size, .ref (zmH1 h l1).objs.size] }
abbrev zmH4 (h : Heap) (l1 l2 : Addr) : Heap := (zmH3 h l1 l2).push { cls := .type "tuple", data := .seq #[.none, .none] }
abbrev zmH5 (h : Heap) (l1 l2 : Addr) : Heap := (zmH4 h l1 l2).push { cls := .type "zip", data := .fields #[.none, .bool false, .bool false, .ref (zmH2 h l1 l2).objs.size, .ref (zmH3 h l1 l2).objs.size] }
theorem meets_zipM_new (l1 l2 : Addr) (xs ys : Array Value) :
    Meets (Builtin.«zip.__new__» ⟨[.type "zip", .ref l1, .ref l2], []⟩) (fun _ R s => s.heap.IsTuple l1 xs ∧ s.heap.IsList l2 ys ∧
      R (.ok (.ret (.ref (zmH4 s.heap l1 l2).objs.size))) { s with heap := zmH5 s.heap l1 l2 }) :=
  .of_wp fun prog w A R s h => by
    obtain ⟨hp, g, d, tk, os⟩ := s; obtain ⟨hl1, hl2, h⟩ := h
    have hsub := sub_zip
    have hL1 : Heap.IsTuple (Shared.heap ⟨hp, g, d, tk, os⟩) l1 xs := hl1
    have hL2 : Heap.IsList (Shared.heap ⟨hp.push { cls := .type "tuple_iterator", data := .fields #[.ref l1, .int 0 0] }, g, d, tk, os⟩) l2 ys := hl2.at fun o e => Heap.get?_push_of_some _ e
    wp_walk using wpAny_pyIter_tuple hL1, wpAny_pyIter_list hL2
    exact ⟨_, rfl, h⟩
theorem call_zipM {prog : Program} {w : World} {A : Around} {E : Value → Shared → Prop} {s : Shared} {l1 l2 : Addr} {xs ys : Array Value} {Q : Value → Shared → Prop} (hl1 : s.heap.IsTuple l1 xs) (hl2 : s.heap.IsList l2 ys)
    (h : ∀ h', IsZip h' (s.heap.objs.size + 4) (s.heap.objs.size + 2) (s.heap.objs.size + 3) .none → IsPair h' (s.heap.objs.size + 2) (.ref s.heap.objs.size) (.ref (s.heap.objs.size + 1)) →
      IsPair h' (s.heap.objs.size + 3) .none .none → h'.IsTupleIter s.heap.objs.size l1 0 → h'.IsListIter (s.heap.objs.size + 1) l2 0 → h'.objs.size = s.heap.objs.size + 5 →
      (∀ c o, s.heap.get? c = some o → h'.get? c = some o) → Q (.ref (s.heap.objs.size + 4)) { s with heap := h' }) :
    wpAny (model prog w) A (call (.type "zip") [.ref l1, .ref l2]) Q E s := by
  refine callType_new F.called_zip (by decide) (F.typeCall_zip_2 _ _) (F.newCall_zip_2 _ _) (fun obj => F.args_object_init_3 obj _ _) F.entry_zip_new
    (meets_zipM_new l1 l2 xs ys) ⟨hl1, hl2, ?_⟩
  have z1 : (zmH1 s.heap l1).objs.size = s.heap.objs.size + 1 := Heap.size_push ..
  have z2 : (zmH2 s.heap l1 l2).objs.size = s.heap.objs.size + 2 := by rw [Heap.size_push, z1]
  have z3 : (zmH3 s.heap l1 l2).objs.size = s.heap.objs.size + 3 := by rw [Heap.size_push, z2]
  have z4 : (zmH4 s.heap l1 l2).objs.size = s.heap.objs.size + 4 := by rw [Heap.size_push, z3]
  have z5 : (zmH5 s.heap l1 l2).objs.size = s.heap.objs.size + 5 := by rw [Heap.size_push, z4]
  have g5 : (zmH5 s.heap l1 l2).get? (zmH4 s.heap l1 l2).objs.size = some _ := Heap.get?_push_size _ rfl
  have g4 : (zmH5 s.heap l1 l2).get? (zmH3 s.heap l1 l2).objs.size = some _ := Heap.get?_push_of_some _ (Heap.get?_push_size _ rfl)
  have g3 : (zmH5 s.heap l1 l2).get? (zmH2 s.heap l1 l2).objs.size = some _ := Heap.get?_push_of_some _ (Heap.get?_push_of_some _ (Heap.get?_push_size _ rfl))
  have g2 : (zmH5 s.heap l1 l2).get? (zmH1 s.heap l1).objs.size = some _ := Heap.get?_push_of_some _ (Heap.get?_push_of_some _ (Heap.get?_push_of_some _ (Heap.get?_push_size _ rfl)))
  have g1 : (zmH5 s.heap l1 l2).get? s.heap.objs.size = some _ := Heap.get?_push_of_some _ (Heap.get?_push_of_some _ (Heap.get?_push_of_some _ (Heap.get?_push_of_some _ (Heap.get?_push_size _ rfl))))
  show _ ∧ _
  rw [z2, z3, z4] at g5
  rw [z1, z2] at g3
  rw [z3] at g4
  rw [z1] at g2
  rw [z4]
  exact ⟨⟨_, g5, rfl⟩, h _ g5 g3 g4 ⟨_, g1, rfl, rfl⟩ ⟨_, g2, rfl, rfl⟩ z5 fun c o x =>
    Heap.get?_push_of_some _ (Heap.get?_push_of_some _ (Heap.get?_push_of_some _ (Heap.get?_push_of_some _ (Heap.get?_push_of_some _ x))))⟩
def iZipB (K : PySem.W.Frag) (ta : TA) : TI := fun σ H R => ta σ H fun vs H1 => ∃ a b xs ys, vs = [.ref a, .ref b] ∧ ((SqL K H1 a xs ∧ SqL K H1 b ys ∧ R (Itz K a b) H1) ∨ (SqT K H1 a xs ∧ SqT K H1 b ys ∧ R (RZ.ItzT K a b) H1) ∨ (SqT K H1 a xs ∧ SqL K H1 b ys ∧ R (ItzM K a b) H1))
theorem pi_zipB {X : Cx} {e e2 : Expr} {ta : TA} {p pos tpos : Pos} {elts : List Expr} {kk : Nat} (hg : Gl X "zip") (hm : X.mg "zip" = none) (ha : PA X [e, e2] ta)
    (hs : starEach [e, e2] X.env = (false, eval e X.env) :: starEach [e2] X.env := by rfl) (hpl : (backTo pos (starEach [e2] X.env)).any (·.1) = false := by rfl) :
    PI X (.Tuple elts kk tpos) (.Call (.Name "zip" p) [e, e2] [] pos) (iZipB X.K ta) := by
  refine ⟨fun pins s σ H R In h => ?_⟩
  refine Call_ (ld_blt In hg hm PyProof.Rows.boot_zip (PyProof.Rows.callWith_type1 (thn (ha.run pos pins s σ H _ In h) fun us s1 ⟨vs, H1, I1, r1, q1⟩ => ?_) hs hpl))
  obtain ⟨a, b, xs, ys, ex, q1⟩ := q1
  subst ex
  cases r1 with
  | cons r rr =>
    cases rr with
    | cons r' rr =>
      cases rr
      cases r
      cases r'
      have fresh5 : ∀ c, c ∈ [s1.heap.objs.size + 4, s1.heap.objs.size + 2, s1.heap.objs.size + 3, s1.heap.objs.size, s1.heap.objs.size + 1] → FpOk X pins H1 c := fun c hcm => by
        have e' : c = s1.heap.objs.size + 4 ∨ c = s1.heap.objs.size + 2 ∨ c = s1.heap.objs.size + 3 ∨ c = s1.heap.objs.size ∨ c = s1.heap.objs.size + 1 := by simpa using hcm
        have hle : s1.heap.objs.size ≤ c := by
          rcases e' with z | z | z | z | z
          · rw [z]; exact Nat.le_add_right _ _
          · rw [z]; exact Nat.le_add_right _ _
          · rw [z]; exact Nat.le_add_right _ _
          · rw [z]; exact Nat.le_refl _
          · rw [z]; exact Nat.le_add_right _ _
        exact I1.fpOk hle (I1.hok.fresh hle)
      rcases q1 with ⟨hqx, hqy, q⟩ | ⟨hqx, hqy, q⟩ | ⟨hqx, hqy, q⟩
      · obtain ⟨its, rv, p1, _⟩ := I1.list hqx
        obtain ⟨its2, rv2, p2, _⟩ := I1.list hqy
        refine call_zip_2 p1.isList p2.isList fun h' hz hTI hTO h1 h2 hsz hk => wpAny_pyIter_zip hz ?_
        exact ⟨s1.heap.objs.size + 4, [s1.heap.objs.size + 4, s1.heap.objs.size + 2, s1.heap.objs.size + 3, s1.heap.objs.size, s1.heap.objs.size + 1], _, _, H1, rfl, I1.kept (t' := s1.toks) hk, turn_zip (PySem.W.ktu_apart s1.heap.objs.size a b p1.lt p2.lt), ⟨hz, hTI, ⟨_, _, hTO⟩, h1, h2⟩, fresh5, q⟩
      · obtain ⟨its, rv, p1, _⟩ := I1.tuple hqx
        obtain ⟨its2, rv2, p2, _⟩ := I1.tuple hqy
        obtain ⟨o1, ho1, _⟩ := id p1
        obtain ⟨o2, ho2, _⟩ := id p2
        refine RZ.call_zipT (show s1.heap.IsTuple a its.toArray from p1) (show s1.heap.IsTuple b its2.toArray from p2) fun h' hz hTI hTO h1 h2 hsz hk => wpAny_pyIter_zip hz ?_
        exact ⟨s1.heap.objs.size + 4, [s1.heap.objs.size + 4, s1.heap.objs.size + 2, s1.heap.objs.size + 3, s1.heap.objs.size, s1.heap.objs.size + 1], _, _, H1, rfl, I1.kept (t' := s1.toks) hk, RZ.turn_zipT (PySem.W.ktu_apart s1.heap.objs.size a b (Heap.lt_size ho1) (Heap.lt_size ho2)), ⟨hz, hTI, ⟨_, _, hTO⟩, h1, h2⟩, fresh5, q⟩
      · obtain ⟨its, rv, p1, _⟩ := I1.tuple hqx
        obtain ⟨its2, rv2, p2, _⟩ := I1.list hqy
        obtain ⟨o1, ho1, _⟩ := id p1
        have lta : a < s1.heap.objs.size := Heap.lt_size ho1
        have ltb : b < s1.heap.objs.size := p2.lt
        generalize hN : s1.heap.objs.size = N at fresh5 lta ltb
        have sep : ZipSep2 (N + 4) (N + 2) (N + 3) N (N + 1) [N, a] [N + 1, b] := by
          have f : ∀ {x y z : Nat}, x ≠ y → x ≠ z → x ∉ ([y, z] : List Nat) := fun h1 h2 m => by
            rcases (by simpa using m : _ ∨ _) with e | e
            · exact h1 e
            · exact h2 e
          have ga : ∀ k : Nat, N + k ≠ a := fun k => Nat.ne_of_gt (Nat.lt_of_lt_of_le lta (Nat.le_add_right _ _))
          have gb : ∀ k : Nat, N + k ≠ b := fun k => Nat.ne_of_gt (Nat.lt_of_lt_of_le ltb (Nat.le_add_right _ _))
          exact ⟨by show N + 2 ≠ N + 4; omega, by show N + 3 ≠ N + 4; omega, by show N + 2 ≠ N + 3; omega, by show N + 2 ≠ N; omega, by simp, f (by omega) (ga 4), f (by omega) (ga 3), by show N + 2 ≠ N + 1; omega, by simp, f (by omega) (gb 4), f (by omega) (gb 3), f (by omega) (gb 0), f (by omega) (ga 1)⟩
        subst hN
        refine call_zipM (show s1.heap.IsTuple a its.toArray from p1) p2.isList fun h' hz hTI hTO h1 h2 hsz hk => wpAny_pyIter_zip hz ?_
        exact ⟨s1.heap.objs.size + 4, [s1.heap.objs.size + 4, s1.heap.objs.size + 2, s1.heap.objs.size + 3, s1.heap.objs.size, s1.heap.objs.size + 1], _, _, H1, rfl, I1.kept (t' := s1.toks) hk, turn_zipM sep (Nat.ne_of_lt lta) (Nat.ne_of_lt (Nat.lt_succ_of_lt ltb)), ⟨hz, hTI, ⟨_, _, hTO⟩, h1, h2⟩, fresh5, q⟩
/-! zip of two lists, of two tuples -/
def zipP (xs ys : List D) : List W := (xs.zip ys).map fun p => W.d (.tup [p.1, p.2])
def zipO : W → W → Sto → Option (List W × (Sto → Prop))
  | .d (.tup xs), .d (.tup ys), _ => some (zipP xs ys, fun _ => True)
  | .d (.tup xs), .d (.lst ys), _ => some (zipP xs ys, fun _ => True)
  | x, y, S => match lsOf x S, lsOf y S with
    | some a, some b => match plainL a, plainL b with
      | some xs, some ys => some (zipP xs ys, fun S' => lsOf x S' = some a ∧ lsOf y S' = some b)
      | _, _ => none
    | _, _ => none
def iZip (a b : DE) : DI := fun e S => (a e S).bind fun x S1 => (b e S1).bind fun y S2 => ofO (zipO x y S2) S2
theorem zip_get {α β : Type} {xs : List α} {ys : List β} {i : Nat} {p : α × β} (h : (xs.zip ys)[i]? = some p) : xs[i]? = some p.1 ∧ ys[i]? = some p.2 := by
  rw [List.getElem?_zip_eq_some] at h
  exact h
theorem zipP_get {xs ys : List D} {i : Nat} {x : W} (h : (zipP xs ys)[i]? = some x) : ∃ a b, xs[i]? = some a ∧ ys[i]? = some b ∧ x = .d (.tup [a, b]) := by
  unfold zipP at h
  rw [List.getElem?_map] at h
  cases q : (xs.zip ys)[i]? with
  | none => rw [q] at h; cases h
  | some p =>
    rw [q] at h
    obtain ⟨h1, h2⟩ := zip_get q
    exact ⟨p.1, p.2, h1, h2, by simpa using h.symm⟩
theorem zipP_len {xs ys : List D} : (zipP xs ys).length = min xs.length ys.length := by
  unfold zipP
  simp
theorem reps_get {H : Hp} : ∀ {xs : List D} {vs : List V} {i : Nat} {a : D}, Reps I H xs vs → xs[i]? = some a → ∃ v, vs[i]? = some v ∧ Rep I H a v
  | _, _, _, _, .nil, h => by simp at h
  | _, _, 0, _, .cons r1 rs, h => by cases h; exact ⟨_, rfl, r1⟩
  | _, _, i + 1, _, .cons r1 rs, h => reps_get (i := i) rs h
theorem wk_zipL {a b : Addr} {xs ys : List D} {gd : Sto → Prop} {S : Sto} {M : List Addr} {H : Hp} (h : ∀ S2 M2 Hs, Le S M H S2 M2 Hs → Sim I S2 M2 Hs → gd S2 → ∃ vs us, SqL I.K Hs a vs ∧ SqL I.K Hs b us ∧ Reps I (mask S2 M2 Hs) xs vs ∧ Reps I (mask S2 M2 Hs) ys us) : WalkI I (Itz I.K a b) (zipP xs ys) gd S M H where
  item := fun S2 M2 Hs H2 l s ex hg i x hx => by
    obtain ⟨vs, us, h1, h2, r1, r2⟩ := h S2 M2 Hs l s hg
    obtain ⟨c, d, e1, e2, rfl⟩ := zipP_get hx
    obtain ⟨v, f1, g1⟩ := reps_get r1 e1
    obtain ⟨u, f2, g2⟩ := reps_get r2 e2
    refine ⟨⟨vs, us, v, u, ex_l ex h1, ex_l ex h2, f1, f2⟩, fun w H3 hy => .inr ?_⟩
    obtain ⟨T, v', u', rfl, nT, rfl, k1, k2⟩ := hy
    have := k1 vs (ex_l ex h1)
    rw [f1] at this
    cases this
    have := k2 us (ex_l ex h2)
    rw [f2] at this
    cases this
    exact ⟨T, [v, u], [c, d], nT, rfl, rfl, rfl, .cons g1 (.cons g2 .nil)⟩
  stop := fun S2 M2 Hs H2 l s ex hg => by
    obtain ⟨vs, us, h1, h2, r1, r2⟩ := h S2 M2 Hs l s hg
    refine ⟨vs, us, ex_l ex h1, ex_l ex h2, ?_⟩
    rw [zipP_len, r1.len, r2.len]
    omega
theorem wk_zipT {a b : Addr} {xs ys : List D} {gd : Sto → Prop} {S : Sto} {M : List Addr} {H : Hp} (h : ∀ S2 M2 Hs, Le S M H S2 M2 Hs → Sim I S2 M2 Hs → gd S2 → ∃ vs us, SqT I.K Hs a vs ∧ SqT I.K Hs b us ∧ Reps I (mask S2 M2 Hs) xs vs ∧ Reps I (mask S2 M2 Hs) ys us) : WalkI I (RZ.ItzT I.K a b) (zipP xs ys) gd S M H where
  item := fun S2 M2 Hs H2 l s ex hg i x hx => by
    obtain ⟨vs, us, h1, h2, r1, r2⟩ := h S2 M2 Hs l s hg
    obtain ⟨c, d, e1, e2, rfl⟩ := zipP_get hx
    obtain ⟨v, f1, g1⟩ := reps_get r1 e1
    obtain ⟨u, f2, g2⟩ := reps_get r2 e2
    refine ⟨⟨vs, us, v, u, ex_t ex h1, ex_t ex h2, f1, f2⟩, fun w H3 hy => .inr ?_⟩
    obtain ⟨T, v', u', rfl, nT, rfl, k1, k2⟩ := hy
    have := k1 vs (ex_t ex h1)
    rw [f1] at this
    cases this
    have := k2 us (ex_t ex h2)
    rw [f2] at this
    cases this
    exact ⟨T, [v, u], [c, d], nT, rfl, rfl, rfl, .cons g1 (.cons g2 .nil)⟩
  stop := fun S2 M2 Hs H2 l s ex hg => by
    obtain ⟨vs, us, h1, h2, r1, r2⟩ := h S2 M2 Hs l s hg
    refine ⟨vs, us, ex_t ex h1, ex_t ex h2, ?_⟩
    rw [zipP_len, r1.len, r2.len]
    omega
theorem wk_zipM {a b : Addr} {xs ys : List D} {gd : Sto → Prop} {S : Sto} {M : List Addr} {H : Hp} (h : ∀ S2 M2 Hs, Le S M H S2 M2 Hs → Sim I S2 M2 Hs → gd S2 → ∃ vs us, SqT I.K Hs a vs ∧ SqL I.K Hs b us ∧ Reps I (mask S2 M2 Hs) xs vs ∧ Reps I (mask S2 M2 Hs) ys us) : WalkI I (ItzM I.K a b) (zipP xs ys) gd S M H where
  item := fun S2 M2 Hs H2 l s ex hg i x hx => by
    obtain ⟨vs, us, h1, h2, r1, r2⟩ := h S2 M2 Hs l s hg
    obtain ⟨c, d, e1, e2, rfl⟩ := zipP_get hx
    obtain ⟨v, f1, g1⟩ := reps_get r1 e1
    obtain ⟨u, f2, g2⟩ := reps_get r2 e2
    refine ⟨⟨vs, us, v, u, ex_t ex h1, ex_l ex h2, f1, f2⟩, fun w H3 hy => .inr ?_⟩
    obtain ⟨T, v', u', rfl, nT, rfl, k1, k2⟩ := hy
    have := k1 vs (ex_t ex h1)
    rw [f1] at this
    cases this
    have := k2 us (ex_l ex h2)
    rw [f2] at this
    cases this
    exact ⟨T, [v, u], [c, d], nT, rfl, rfl, rfl, .cons g1 (.cons g2 .nil)⟩
  stop := fun S2 M2 Hs H2 l s ex hg => by
    obtain ⟨vs, us, h1, h2, r1, r2⟩ := h S2 M2 Hs l s hg
    refine ⟨vs, us, ex_t ex h1, ex_l ex h2, ?_⟩
    rw [zipP_len, r1.len, r2.len]
theorem plainL_reps {M : List Addr} {H : Hp} : ∀ {ws : List W} {vs : List V} {xs : List D}, RepWs I M H ws vs → plainL ws = some xs → Reps I H xs vs
  | [], _, _, .nil, e => by cases e; exact .nil
  | .d x :: ws, _, _, .cons r t, e => by
    rw [plainL] at e
    split at e
    · rename_i ys hy
      cases e
      exact .cons r (plainL_reps t hy)
    · cases e
  | .c _ :: _, _, _, .cons _ _, e => by rw [plainL] at e; cases e
  | .e _ _ :: _, _, _, .cons _ _, e => by rw [plainL] at e; cases e
theorem si_zip {elts : List Expr} {kk : Nat} {tpos : Pos} (t : Cok J X w F Fi k) (hb : J.sg.blt "zip" = true) (ha : PE X a (rdE (J.inf X.K) w da)) (hb' : PE X b (rdE (J.inf X.K) w db)) (hg : Gl X "zip" := by rfl) (hs : starEach [a, b] X.env = (false, eval a X.env) :: starEach [b] X.env := by rfl)
    (hpl : (backTo pos (starEach [b] X.env)).any (·.1) = false := by rfl) (hs2 : starEach [b] X.env = (false, eval b X.env) :: starEach [] X.env := by rfl) : PI X (.Tuple elts kk tpos) (.Call (.Name "zip" p) [a, b] [] pos) (rdI (J.inf X.K) w (iZip da db)) :=
  PI_imp (pi_zipB hg (t.glb _ hb) (pa_cons ha (pa_cons hb' pa_nil hs2) hs) hs hpl) fun σ H R ⟨env, S, M, sim, sl, p⟩ => by
    show rdE (J.inf X.K) w da σ H fun x H1 => rdE (J.inf X.K) w db σ H1 fun y H2 => ∃ a b xs ys, [x, y] = [.ref a, .ref b] ∧ ((SqL X.K H2 a xs ∧ SqL X.K H2 b ys ∧ R (Itz X.K a b) H2) ∨ (SqT X.K H2 a xs ∧ SqT X.K H2 b ys ∧ R (RZ.ItzT X.K a b) H2) ∨ (SqT X.K H2 a xs ∧ SqL X.K H2 b ys ∧ R (ItzM X.K a b) H2))
    refine rdI_at (R := R) (f := fun x S1 => (db env S1).bind fun y S2 => ofO (zipO x y S2) S2) sim sl p fun x v S1 M1 H1 l1 s1 sl1 r1 p1 => ?_
    refine rdI_at (R := R) (f := fun y S2 => ofO (zipO x y S2) S2) s1 sl1 p1 fun y u S2 M2 H2 l2 s2 sl2 r2 p2 => ?_
    obtain ⟨q, hq, kk⟩ := EndI.of p2 s2
    have r1 := r1.mono l2
    unfold zipO at hq
    split at hq
    · rename_i xs ys
      cases hq
      cases r1 with
      | tup h1 q1 =>
        cases r2 with
        | tup h2 q2 =>
          exact ⟨_, _, _, _, rfl, .inr (.inl ⟨ex_t mask_ex h1, ex_t mask_ex h2, kk _ (wk_zipT fun S3 M3 Hs l s3 _ => ⟨_, _, ex_t (l.ex.trans mask_ex) h1, ex_t (l.ex.trans mask_ex) h2, q1.mono l.ex, q2.mono l.ex⟩)⟩)⟩
    · rename_i xs ys
      cases hq
      cases r1 with
      | tup h1 q1 =>
        cases r2 with
        | lst h2 q2 =>
          have h2' : ∀ {Hs : Hp}, Ex (mask S2 M2 H2) Hs → SqL X.K Hs _ _ := fun ex => .inl (.inl (ex _ _ h2))
          exact ⟨_, _, _, _, rfl, .inr (.inr ⟨ex_t mask_ex h1, h2' mask_ex, kk _ (wk_zipM fun S3 M3 Hs l s3 _ => ⟨_, _, ex_t (l.ex.trans mask_ex) h1, h2' (l.ex.trans mask_ex), q1.mono l.ex, q2.mono l.ex⟩)⟩)⟩
    · split at hq
      · rename_i as bs ea eb
        split at hq
        · rename_i xs ys ex ey
          cases hq
          obtain ⟨a, vs, rfl, h1, q1⟩ := lsOf_at s2 r1 ea
          obtain ⟨b, us, rfl, h2, q2⟩ := lsOf_at s2 r2 eb
          refine ⟨a, b, vs, us, rfl, .inl ⟨h1, h2, kk _ (wk_zipL fun S3 M3 Hs l s3 hg => ?_)⟩⟩
          obtain ⟨a', vs', e1, h1', q1'⟩ := lsOf_at s3 (r1.mono l) hg.1
          obtain ⟨b', us', e2, h2', q2'⟩ := lsOf_at s3 (r2.mono l) hg.2
          cases e1
          cases e2
          exact ⟨vs', us', h1', h2', plainL_reps q1' ex, plainL_reps q2' ey⟩
        · cases hq
      · cases hq
/-! reversed of a list, of a tuple -/
def revO : W → Sto → Option (List W × (Sto → Prop))
  | .d (.str x), _ => if x.length ≤ sizeLine then some ((x.cps.toList.map fun c => W.d (.str ⟨#[c]⟩)).reverse, fun _ => True) else none
  | .d (.tup xs), _ => some ((xs.map W.d).reverse, fun _ => True)
  | x, S => match lsOf x S with
    | some a => some (a.reverse, fun S' => lsOf x S' = some a)
    | none => none
def iRev (a : DE) : DI := fun e S => (a e S).bind fun x S1 => ofO (revO x S1) S1
theorem rev_get {α : Type} {xs : List α} {i : Nat} {x : α} (h : xs.reverse[i]? = some x) : i < xs.length ∧ xs[xs.length - 1 - i]? = some x := by
  have hi : i < xs.length := by
    have := (List.getElem?_eq_some_iff.mp h).1
    simpa using this
  rw [List.getElem?_reverse hi] at h
  exact ⟨hi, h⟩
theorem wk_revL {a : Addr} {n : Nat} {xs : List W} {gd : Sto → Prop} {S : Sto} {M : List Addr} {H : Hp} (hn : xs.length = n) (h : ∀ S2 M2 Hs, Le S M H S2 M2 Hs → Sim I S2 M2 Hs → gd S2 → ∃ vs, SqL I.K Hs a vs ∧ RepWs I M2 (mask S2 M2 Hs) xs vs) : WalkI I (Itv I.K a n) xs.reverse gd S M H where
  item := fun S2 M2 Hs H2 l s ex hg i x hx => by
    obtain ⟨vs, h1, r1⟩ := h S2 M2 Hs l s hg
    obtain ⟨hi, hx⟩ := rev_get hx
    rw [hn] at hi hx
    obtain ⟨v, f1, g1⟩ := paired_get r1 hx
    refine ⟨⟨hi, vs, v, ex_l ex h1, f1⟩, fun u H3 hy => .inl ⟨hy.1, ?_⟩⟩
    have := hy.2 vs (ex_l ex h1)
    rw [f1] at this
    cases this
    exact g1
  stop := fun S2 M2 Hs H2 l s ex hg => by
    rw [List.length_reverse, hn]
    exact Nat.le_refl _
theorem wk_revT {a : Addr} {n : Nat} {xs : List W} {gd : Sto → Prop} {S : Sto} {M : List Addr} {H : Hp} (hn : xs.length = n) (h : ∀ S2 M2 Hs, Le S M H S2 M2 Hs → Sim I S2 M2 Hs → gd S2 → ∃ vs, SqT I.K Hs a vs ∧ RepWs I M2 (mask S2 M2 Hs) xs vs) : WalkI I (RT.ItvT I.K a n) xs.reverse gd S M H where
  item := fun S2 M2 Hs H2 l s ex hg i x hx => by
    obtain ⟨vs, h1, r1⟩ := h S2 M2 Hs l s hg
    obtain ⟨hi, hx⟩ := rev_get hx
    rw [hn] at hi hx
    obtain ⟨v, f1, g1⟩ := paired_get r1 hx
    refine ⟨⟨hi, vs, v, ex_t ex h1, f1⟩, fun u H3 hy => .inl ⟨hy.1, ?_⟩⟩
    have := hy.2 vs (ex_t ex h1)
    rw [f1] at this
    cases this
    exact g1
  stop := fun S2 M2 Hs H2 l s ex hg => by
    rw [List.length_reverse, hn]
    exact Nat.le_refl _
theorem wk_revS {x : Str} {gd : Sto → Prop} {S : Sto} {M : List Addr} {H : Hp} : WalkI I (ItvS x) (x.cps.toList.map fun c => W.d (.str ⟨#[c]⟩)).reverse gd S M H where
  item := fun S2 M2 Hs H2 l s ex hg i y hy => by
    obtain ⟨hi, hy⟩ := rev_get hy
    rw [List.length_map, Array.length_toList] at hi hy
    rw [List.getElem?_map, Array.getElem?_toList] at hy
    have hlt : x.cps.size - 1 - i < x.cps.size := by omega
    rw [Array.getElem?_eq_getElem hlt] at hy
    cases hy
    refine ⟨hi, fun u H3 hz => .inl ?_⟩
    obtain ⟨e, c, hc, rfl⟩ := hz
    have hc : x.cps[x.cps.size - 1 - i]? = some c := hc
    rw [Array.getElem?_eq_getElem hlt] at hc
    cases hc
    exact ⟨e, .str _⟩
  stop := fun S2 M2 Hs H2 l s ex hg => by
    show x.cps.size ≤ _
    rw [List.length_reverse, List.length_map, Array.length_toList]
    exact Nat.le_refl _
theorem si_reversed (t : Cok J X w F Fi k) (hb : J.sg.blt "reversed" = true) (ha : PE X a (rdE (J.inf X.K) w da)) (hg : Gl X "reversed" := by rfl) (hs : starEach [a] X.env = (false, eval a X.env) :: starEach [] X.env := by rfl) : PI X tg (.Call (.Name "reversed" p) [a] [] pos) (rdI (J.inf X.K) w (iRev da)) :=
  PI_imp (pi_revB hg (t.glb _ hb) ha hs) fun σ H R ⟨env, S, M, sim, sl, p⟩ => by
    refine rdI_at (R := R) (f := fun x S1 => ofO (revO x S1) S1) sim sl p fun x v S1 M1 H1 l1 s1 sl1 r1 p1 => ?_
    obtain ⟨q, hq, kk⟩ := EndI.of p1 s1
    unfold revO at hq
    split at hq
    · rename_i x
      split at hq
      · rename_i hz
        cases hq
        cases r1
        exact .inl ⟨x, rfl, hz, kk _ wk_revS⟩
      · cases hq
    · rename_i xs
      cases hq
      cases r1 with
      | tup h1 q1 =>
        exact .inr ⟨_, _, rfl, .inr ⟨ex_t mask_ex h1, kk _ (wk_revT (by rw [List.length_map]; exact q1.len) fun S3 M3 Hs l s3 _ => ⟨_, ex_t (l.ex.trans mask_ex) h1, reps_map (q1.mono l.ex)⟩)⟩⟩
    · split at hq
      · rename_i as ea
        cases hq
        obtain ⟨a, vs, rfl, h1, q1⟩ := lsOf_at s1 r1 ea
        refine .inr ⟨a, vs, rfl, .inl ⟨h1, kk _ (wk_revL (Paired.length q1) fun S3 M3 Hs l s3 hg => ?_)⟩⟩
        obtain ⟨a', vs', e1, h1', q1'⟩ := lsOf_at s3 (r1.mono l) hg
        cases e1
        exact ⟨vs', h1', q1'⟩
      · cases hq
end
end Py

/-! Py12: the defs of a program; the end. -/
namespace Py
open PySem PySem.Spec PyProof.Rows L2
structure Def where
  id : Nat
  ar : Nat
  N : Nat
  body : FnTab → FnTab → DS
def noTab : FnTab := fun _ _ _ => .bad
def stepTab (ds : List Def) (F Fi : FnTab) : FnTab := fun f ws S => match ds.find? (fun d => d.id == f) with
  | some d => runDef d.N d.ar (d.body F Fi) ws S
  | none => .bad
def tabP (ds : List Def) : Nat → FnTab × FnTab
  | 0 => (noTab, noTab)
  | n + 1 => (stepTab ds (tabP ds n).1 (tabP ds n).2, (tabP ds n).1)
structure Loc where
  fa : Addr
  fd : FuncData
  ps : List Str
structure Stat (J : Jn) (P : Program) (wd : World) (K : PySem.W.Frag) (mg : Str → Option Value) (base : Heap) (loc : Nat → Option Loc) (ar : Nat → Nat) : Prop where
  seer : base.NoSeer
  tree : P.given.tree = none
  len : ∀ f l, loc f = some l → l.ps.length = ar f
  call : ∀ f x n, J.sg.nm f = some (x, n) → ∃ l, loc f = some l ∧ ar f = n ∧ mg x = some (.ref l.fa) ∧ PySem.W.keepIn K (.ref l.fa) = true ∧ Binds K l.fd l.ps []
  meth : ∀ f c m n, J.sg.mt f = some (c, m, n) → ∃ C l, loc f = some l ∧ ar f = n ∧ J.G c = some C ∧ Meth K C m l.fa ∧ Binds K l.fd l.ps []
  make : ∀ c x f n dfl, J.sg.ini c = some (x, f, n, dfl) → ∃ C l, loc f = some l ∧ ar f = n ∧ J.G c = some C ∧ mg x = some (.ref C) ∧ Mk K C l.fa ∧ ∀ dvs ∈ dfl, ∃ ds, Vals dvs ds ∧ Binds K l.fd l.ps ds
  makeK : ∀ c x f n m ks, J.sg.kw c = some (x, f, n, m, ks) → ∃ C l, loc f = some l ∧ ar f = n ∧ J.G c = some C ∧ mg x = some (.ref C) ∧ Mk K C l.fa ∧ KBn K l.fd l.ps (m + 1) ks (fun us ws => us ++ ws) (fun vs zs => vs ++ zs)
  fi : ∀ f c m n, J.sg.mt f = some (c, m, n) → ∃ (C fa : Addr), J.G c = some C ∧ Meth K C m fa ∧ PySem.W.fnIn K fa = true
  prop : ∀ f c x, J.sg.prop f = some (c, x) → ∃ C p l, loc f = some l ∧ ar f = 1 ∧ J.G c = some C ∧ PropOf K C x p l.fa ∧ Binds K l.fd l.ps []
  cls : ∀ c C, J.G c = some C → Cls K C
  nat : ∀ c C x, J.G c = some C → x ∈ J.sg.fl c → NoAttr K C x
  glb : ∀ x, J.sg.blt x = true → mg x = none
  con : ∀ x v, J.sg.con x = some v → ∃ u, mg x = some u ∧ RelV v u
  cnm : ∀ x c, J.sg.cn x = some c → ∃ C, J.G c = some C ∧ mg x = some (.ref C)
  ty : ∀ c C, J.G c = some C → PySem.W.findIn K (.ref C) "__class__" = some (some (.builtin "object.__class__")) ∧ PySem.W.specialIn K (.builtin "object.__class__") "__get__" = some (some (.builtin "getset_descriptor.__get__")) ∧ PySem.W.takesIn K (.builtin "object.__class__") = some true ∧ PySem.W.mroIn K C (.type "object") = some true
  sf : ∀ c C, J.G c = some C → PySem.W.selfFirst K C = true
  isc : ∀ c c' C C', J.G c = some C → J.G c' = some C' → PySem.W.kitOne K (.ref C) (.ref C') = some (J.sg.sub c c')
  isb : ∀ (T : String) c C, T ∈ ["NoneType", "bool", "int", "str", "tuple", "list", "dict"] → J.G c = some C → PySem.W.kitOne K (.type T) (.ref C) = some false
  ist : ∀ (T : String) c C, T ∈ ["NoneType", "bool", "int", "str", "tuple", "list", "dict"] → J.G c = some C → PySem.W.kitOne K (.ref C) (.type T) = some false
  xn : ∀ x c, J.sg.xn x = some c → ∃ C, J.X c = some C ∧ mg x = some (.ref C)
  xc : ∀ c C, J.X c = some C → XcF P wd K mg base C
  xs : ∀ c k C C', J.X c = some C → J.X k = some C' → PySem.W.kitOne K (.ref C) (.ref C') = some (J.sg.xs c k) ∧ PySem.W.exmOne K (.ref C) (.ref C') = some (J.sg.xs c k)
  xv : ∀ c C, J.X c = some C → PySem.W.kitOne K (.ref C) (.type "ValueError") = some true
section
variable {J : Jn} {P : Program} {wd : World} {K : PySem.W.Frag} {mg : Str → Option Value} {base : Heap} {loc : Nat → Option Loc} {ar : Nat → Nat} {F Fi : FnTab} {k : Nat}
abbrev Kept (J : Jn) (P : Program) (wd : World) (K : PySem.W.Frag) (mg : Str → Option Value) (base : Heap) (loc : Nat → Option Loc) (ar : Nat → Nat) (F : FnTab) (k : Nat) : Prop :=
  ∀ f l, loc f = some l → FnOk P wd K mg base (L2.CX P wd) k l.fa l.fd l.ps (spOf (J.inf K) F f (ar f))
theorem tb_of (hk : 40 ≤ k) (s : Stat J P wd K mg base loc ar) (h1 : Kept J P wd K mg base loc ar F (k + 1)) (h0 : Kept J P wd K mg base loc ar Fi k) : Tb J P wd K mg base F Fi k where
  seer := s.seer
  tree := s.tree
  ge := hk
  call := fun f x n e => by
    obtain ⟨l, a, b, c, d, g⟩ := s.call f x n e
    subst b
    exact ⟨l.fa, l.fd, l.ps, c, d, h1 f l a, g⟩
  meth := fun f c m n e => by
    obtain ⟨C, l, a, b, c, d, g⟩ := s.meth f c m n e
    subst b
    exact ⟨C, l.fa, l.fd, l.ps, c, d, h1 f l a, g⟩
  make := fun c x f n dfl e => by
    obtain ⟨C, l, a, b, c, d, g, i⟩ := s.make c x f n dfl e
    subst b
    exact ⟨C, l.fa, l.fd, l.ps, c, d, g, h0 f l a, i⟩
  makeK := fun c x f n m ks e => by
    obtain ⟨C, l, a, b, c, d, g, i⟩ := s.makeK c x f n m ks e
    subst b
    exact ⟨C, l.fa, l.fd, l.ps, c, d, g, h0 f l a, i⟩
  low := fun f c m n e => by
    obtain ⟨C, l, a, b, c, d, g⟩ := s.meth f c m n e
    subst b
    exact ⟨C, l.fa, l.fd, l.ps, c, d, h0 f l a, g⟩
  lowf := fun f x n e => by
    obtain ⟨l, a, b, c, d, g⟩ := s.call f x n e
    subst b
    exact ⟨l.fa, l.fd, l.ps, c, h0 f l a, g⟩
  prop := fun f c x e => by
    obtain ⟨C, p, l, a, b, c, d, g⟩ := s.prop f c x e
    have h := h0 f l a
    rw [b] at h
    exact ⟨C, p, l.fa, l.fd, l.ps, c, d, h, g⟩
  fi := s.fi
  cls := s.cls
  nat := s.nat
  glb := s.glb
  con := s.con
  cnm := s.cnm
  ty := s.ty
  sf := s.sf
  xn := s.xn
  xc := s.xc
  xs := s.xs
  xv := s.xv
  isc := s.isc
  isb := s.isb
  ist := s.ist
theorem kept_none (s : Stat J P wd K mg base loc ar) : Kept J P wd K mg base loc ar noTab k := fun f l e =>
  ⟨fun vs H Q E h => by rw [s.len f l e]; exact h.1, fun A outer s H args us vs Q E hr e0 hb r h => by
    obtain ⟨_, ws, S, M, _, _, p⟩ := h
    exact p.elim⟩
/-- every def keeps its promise, at every depth -/
theorem kept_all {ds : List Def} (s : Stat J P wd K mg base loc ar)
    (h : ∀ n, Tb J P wd K mg base (tabP ds n).1 (tabP ds n).2 (n + 40) → Kept J P wd K mg base loc ar (tabP ds (n + 1)).1 (n + 42)) : ∀ n, Kept J P wd K mg base loc ar (tabP ds n).1 (n + 41) ∧ Kept J P wd K mg base loc ar (tabP ds n).2 (n + 40)
  | 0 => ⟨kept_none s, kept_none s⟩
  | n + 1 => by
    obtain ⟨a, b⟩ := kept_all s h n
    refine ⟨h n (tb_of (by omega) s a b), ?_⟩
    rw [show n + 1 + 40 = n + 41 by omega]
    exact a
theorem cok_of {N ps : List Str} {qual : Str} {sc : Scope} {fa : Addr} {cdv : Value} {A : Around} {outer : List PySem.Env} {s : Shared} {H : Hp} {E : XK} (T : Tb J P wd K mg base F Fi k) (S : FnScope N ps sc) (hr : Room (k + 1) (A.deeper (envOfC qual sc s.heap.objs.size fa cdv))) :
    Cok J (cxOf (L2.CX P wd) P wd K mg base N qual sc fa cdv A outer s H E) (fun cls dd _ H' => E cls dd H') F Fi k :=
  ⟨T, rfl, S.nd, takes_of rfl rfl rfl rfl, passes_of rfl, hr, by have := hr.dp; have := T.ge; show _ + 100 < _; unfold cxOf; dsimp only; omega, ⟨_, _, rfl, S.gen, S.co, rfl, rfl⟩⟩
end
theorem lk_all {α : Type} {P : Nat → α → Prop} : ∀ {L : List (Nat × α)}, (∀ p ∈ L, P p.1 p.2) → ∀ f v, L.lookup f = some v → P f v
  | [], _, f, v, e => by cases e
  | (g, u) :: L, h, f, v, e => by
    rw [List.lookup_cons] at e
    cases q : f == g with
    | true =>
      rw [q] at e
      have e : u = v := by simpa using e
      have : f = g := by simpa using q
      subst this e
      exact h (f, u) List.mem_cons_self
    | false =>
      rw [q] at e
      exact lk_all (fun p m => h p (List.mem_cons_of_mem _ m)) f v e
theorem lks_all {α : Type} {P : Str → α → Prop} : ∀ {L : List (Str × α)}, (∀ p ∈ L, P p.1 p.2) → ∀ f v, L.lookup f = some v → P f v
  | [], _, f, v, e => by cases e
  | (g, u) :: L, h, f, v, e => by
    rw [List.lookup_cons] at e
    cases q : f == g with
    | true =>
      rw [q] at e
      have e : u = v := by simpa using e
      have : f = g := by simpa using q
      subst this e
      exact h (f, u) List.mem_cons_self
    | false =>
      rw [q] at e
      exact lks_all (fun p m => h p (List.mem_cons_of_mem _ m)) f v e
theorem mem_all {α : Type} [BEq α] [LawfulBEq α] {P : α → Prop} {L : List α} (h : ∀ p ∈ L, P p) : ∀ x, L.contains x = true → P x := fun x e => h x (by simpa using e)
theorem all_nil {α : Type} {P : α → Prop} : ∀ p ∈ ([] : List α), P p := fun p h => by cases h
theorem all_cons {α : Type} {P : α → Prop} {a : α} {l : List α} (h : P a) (t : ∀ p ∈ l, P p) : ∀ p ∈ a :: l, P p := fun p m => by
  rcases List.mem_cons.mp m with e | m
  · rw [e]; exact h
  · exact t p m
/-- a part kept in a larger one -/
theorem frag_l {K L : PySem.W.Frag} {a : Addr} {o : Obj} (h : K.lookup a = some o) : (K ++ L).lookup a = some o := by
  induction K with
  | nil => cases h
  | cons p K ih =>
    obtain ⟨b, u⟩ := p
    rw [List.cons_append, List.lookup_cons]
    rw [List.lookup_cons] at h
    split at h
    · exact h
    · exact ih h
theorem frag_or {K L : PySem.W.Frag} {a : Addr} {o : Obj} (h : (K ++ L).lookup a = some o) : K.lookup a = some o ∨ L.lookup a = some o := by
  induction K with
  | nil => exact .inr h
  | cons p K ih =>
    obtain ⟨b, u⟩ := p
    rw [List.cons_append, List.lookup_cons] at h
    rw [List.lookup_cons]
    split at h
    · exact .inl h
    · exact ih h
theorem frag_some {K L : PySem.W.Frag} {a : Addr} {o : Obj} (h : L.lookup a = some o) : ∃ u, (K ++ L).lookup a = some u := by
  induction K with
  | nil => exact ⟨o, h⟩
  | cons p K ih =>
    obtain ⟨b, u⟩ := p
    rw [List.cons_append, List.lookup_cons]
    split
    · exact ⟨u, rfl⟩
    · exact ih
theorem lk5 {a b c d e x : Addr} {oa ob oc od oe u : Obj} (h : ([(a, oa), (b, ob), (c, oc), (d, od), (e, oe)] : PySem.W.Frag).lookup x = some u) : (x = a ∧ u = oa) ∨ (x = b ∧ u = ob) ∨ (x = c ∧ u = oc) ∨ (x = d ∧ u = od) ∨ (x = e ∧ u = oe) := by
  simp only [List.lookup_cons, List.lookup_nil] at h
  split at h
  · rename_i q; cases h; exact .inl ⟨by simpa using q, rfl⟩
  split at h
  · rename_i q; cases h; exact .inr (.inl ⟨by simpa using q, rfl⟩)
  split at h
  · rename_i q; cases h; exact .inr (.inr (.inl ⟨by simpa using q, rfl⟩))
  split at h
  · rename_i q; cases h; exact .inr (.inr (.inr (.inl ⟨by simpa using q, rfl⟩)))
  split at h
  · rename_i q; cases h; exact .inr (.inr (.inr (.inr ⟨by simpa using q, rfl⟩)))
  · cases h
/-- what _pylong's room wants of the heap, as objects that a base may keep -/
theorem seer_frag {h : Heap} (z : h.NoSeer) : ∃ L : PySem.W.Frag, (∀ a o, L.lookup a = some o → h.get? a = some o ∧ ∀ its n, o.cls = .type "list" → o.data ≠ .seq its n) ∧ ∀ base : Heap, (∀ a o, L.lookup a = some o → base.get? a = some o) → base.NoSeer := by
  obtain ⟨⟨m1, ⟨o1, e1, p1, a1, d1, r1⟩, y1⟩, ⟨m2, ⟨o2, e2, p2, a2, d2, r2⟩, y2⟩, ⟨m3, ⟨o3, e3, p3, a3, d3, r3⟩, y3⟩, ⟨m4, b4, o5, ⟨o4, e4, p4, a4, d4, r4⟩, y4, a5, y5, y6⟩⟩ := z
  refine ⟨[(cStatics, o1), (sysModules, o2), (builtinsNs, o3), (mainGlobals, o4), (b4, o5)], fun a o q => ?_, fun base q => ?_⟩
  · rcases lk5 q with ⟨rfl, rfl⟩ | ⟨rfl, rfl⟩ | ⟨rfl, rfl⟩ | ⟨rfl, rfl⟩ | ⟨rfl, rfl⟩
    · exact ⟨a1, fun its n _ z => by rw [d1] at z; cases z⟩
    · exact ⟨a2, fun its n _ z => by rw [d2] at z; cases z⟩
    · exact ⟨a3, fun its n _ z => by rw [d3] at z; cases z⟩
    · exact ⟨a4, fun its n _ z => by rw [d4] at z; cases z⟩
    · exact ⟨a5, fun its n c _ => absurd (y5.symm.trans c) (by simp)⟩
  · have g : ∀ a o, h.get? a = some o → (∃ u, ([(cStatics, o1), (sysModules, o2), (builtinsNs, o3), (mainGlobals, o4), (b4, o5)] : PySem.W.Frag).lookup a = some u) → base.get? a = some o := fun a o ha ⟨u, hu⟩ => by
      have e := q a u hu
      rcases lk5 hu with ⟨rfl, rfl⟩ | ⟨rfl, rfl⟩ | ⟨rfl, rfl⟩ | ⟨rfl, rfl⟩ | ⟨rfl, rfl⟩
      · rw [a1] at ha; cases ha; exact e
      · rw [a2] at ha; cases ha; exact e
      · rw [a3] at ha; cases ha; exact e
      · rw [a4] at ha; cases ha; exact e
      · rw [a5] at ha; cases ha; exact e
    have s : ∀ (a : Addr), a = cStatics ∨ a = sysModules ∨ a = builtinsNs ∨ a = mainGlobals ∨ a = b4 → ∃ u, ([(cStatics, o1), (sysModules, o2), (builtinsNs, o3), (mainGlobals, o4), (b4, o5)] : PySem.W.Frag).lookup a = some u := fun a ha => by
      simp only [List.lookup_cons, List.lookup_nil]
      repeat' split
      all_goals first | exact ⟨_, rfl⟩ | (exfalso; simp_all)
    exact ⟨⟨m1, ⟨o1, e1, p1, g _ _ a1 (s _ (by simp)), d1, r1⟩, y1⟩, ⟨m2, ⟨o2, e2, p2, g _ _ a2 (s _ (by simp)), d2, r2⟩, y2⟩, ⟨m3, ⟨o3, e3, p3, g _ _ a3 (s _ (by simp)), d3, r3⟩, y3⟩, ⟨m4, b4, o5, ⟨o4, e4, p4, g _ _ a4 (s _ (by simp)), d4, r4⟩, y4, g _ _ a5 (s _ (by simp)), y5, y6⟩⟩
/-- a promise over a part is one over a larger part -/
theorem fn_more {P : Program} {wd : World} {K L : PySem.W.Frag} {mg : Str → Option Value} {base : Heap} {CX : CXT} {k : Nat} {f : Addr} {fd : FuncData} {ps : List Str} {sp : Sp} (h : FnOk P wd K mg base CX k f fd ps sp) : FnOk P wd (K ++ L) mg base CX k f fd ps sp :=
  ⟨h.len, fun A outer s H args us vs Q E hr e hb r z => h.run A outer s H args us vs Q E hr ⟨e.frames, ⟨fun a o q => e.mod.kin a o (frag_l q), e.mod.glob, e.mod.blt, e.mod.nolimit⟩, e.bs, e.bsz, e.funs, e.frf, e.hok, e.bare⟩ hb r z⟩
/-- the end of a law -/
theorem law_end {l : PySem.W.OpenLaw} {q : Program} {loose : List Str} {XP : (Str → Option Value) → Heap → Prop} {YP : World → Heap → Prop} {d : DefRec} {K : Params → PySem.W.Frag} {k f : Nat} {F : FnTab} {sg : Sg}
    (hn : l.most = some 63) (hdf : d.params.defaults = []) (hr : Room k callerA) (hi : importsNone q = true) (hY : ∀ (w : World) (h : Heap), YP w h → (K w.params).In h)
    (hF : ∀ (w : World) (mg : Str → Option Value) (fa : Addr) (h : Heap), (K w.params).In h → h.Ns mainGlobals mg → mg d.name = some (.ref fa) →
      ∃ fd : FuncData, (∀ (s : Shared) (u : Value), BindsTo s fd ⟨[u], []⟩ [("script", u)]) ∧ ∀ base : Heap, (K w.params).In base → base.Ns mainGlobals mg → base.NoSeer →
        ∃ G XG : Nat → Option Addr, FnOk l.prog w (K w.params) mg base (L2.CX l.prog w) k fa fd ["script"] (spOf ((Jn.mk sg G XG none).inf (K w.params)) F f 1))
    (hlaw : ∀ ns : List Int, ns.length ≤ 63 → (∀ z ∈ ns, Builtin.Int.intBits z ≤ 1048576) → ∃ S, F f [.d (.lsx (ns.map D.int))] [] = .ok (.d (.bl true)) S) :
    PySem.W.WalkO q loose XP YP l.row.toRowW d [] (fun f vs => PySem.call f vs) := by
  refine Att.attach_callB hn hdf fun w sa sb mg mb fa ofn pm cd doc a vs ns GR YH _ _ _ hmg hobj hints hlen hbits hg => ?_
  have KX := hY w _ YH
  obtain ⟨L, hL1, hL2⟩ := seer_frag (GR.T.seer hi)
  obtain ⟨fd, hb, hF⟩ := hF w mg fa _ KX GR.T.g hmg
  have KL : PySem.W.Frag.In (K w.params ++ L) sb.heap := fun b o q => (frag_or q).elim (KX b o) fun q => (hL1 b o q).1
  refine law_call (K := K w.params ++ L) (CX := L2.CX l.prog w) (sp := fun vs H Q E => ∃ (a : Addr) (ns : List Int), vs = [.ref a] ∧ SqL (K w.params) H a (ns.map V.int) ∧ ns.length ≤ 63 ∧ (∀ z ∈ ns, Builtin.Int.intBits z ≤ 1048576) ∧ (∀ v H', v = .bl true → Q v H')) KL GR.T.g GR.T.b GR.T.builtins GR.T.nolimit hg hobj hints (Nat.le_trans hlen (by decide)) hr (fun base hK hN => ?_) hb (fun H hO hS => ?_) fun H e s' z => ?_
  · have hKl : (K w.params).In base := fun b o q => hK b o (frag_l q)
    have see : base.NoSeer := hL2 base fun b o q => by
      obtain ⟨u, hu⟩ := frag_some (K := K w.params) q
      have h1 := KL b u hu
      rw [(hL1 b o q).1] at h1
      cases h1
      exact hK b _ hu
    obtain ⟨GG, XX, ok⟩ := hF base hKl hN see
    refine fn_more (ok.imp fun vs H Q E ⟨a, ns, e, hS, hl, hbits, hq⟩ => ?_)
    subst e
    obtain ⟨S', e⟩ := hlaw ns hl hbits
    have sim : Sim ((Jn.mk sg GG XX none).inf (K w.params)) [] [] H := ⟨rfl, fun i j a c d e => (by simp at e), fun a m => (by cases m), fun i o a e => (by simp at e), fun i o e => (by simp at e)⟩
    have hm : mask [] [] H = H := by
      funext a
      unfold mask
      rw [if_neg]
      rintro ⟨i, o, e, _⟩
      simp at e
    refine ⟨rfl, [.d (.lsx (ns.map D.int))], [], [], sim, .cons ?_ .nil, ?_⟩
    · rw [hm]
      refine .lsx (vs := ns.map V.int) hS ?_
      clear hS hl hbits e
      induction ns with
      | nil => exact .nil
      | cons n ns ih => exact .cons (.int n) ih
    · rw [e]
      intro v H' M' l' s' r
      cases r
      exact hq _ _ rfl
  · refine ⟨a, ns, rfl, ?_, hlen, hbits, fun v H' e => e⟩
    rcases hS with h | ⟨o, its, n, h1, h2, h3, h4, h5, h6⟩
    · exact .inl h
    · rcases frag_or h1 with h | h
      · exact .inr ⟨o, its, n, h, h2, h3, h4, h5, h6⟩
      · exact absurd h4 ((hL1 a o h).2 its n h2)
  · obtain ⟨a, B, H', cls, dd, _, _, _, _, _, _, _, hh⟩ := z
    exact hh
end Py
namespace Py
open PySem PySem.Spec PyProof.Rows L2
def WF : Nat := 1000000000
theorem bt_len : bootBuiltins "len" = some (.builtin "len") := by decide +kernel
theorem bt_abs : bootBuiltins "abs" = some (.builtin "abs") := by decide +kernel
theorem bt_max : bootBuiltins "max" = some (.builtin "max") := by decide +kernel
theorem bt_min : bootBuiltins "min" = some (.builtin "min") := by decide +kernel
theorem bt_sum : bootBuiltins "sum" = some (.builtin "sum") := by decide +kernel
theorem bt_any : bootBuiltins "any" = some (.builtin "any") := by decide +kernel
theorem bt_all : bootBuiltins "all" = some (.builtin "all") := by decide +kernel
theorem bt_sorted : bootBuiltins "sorted" = some (.builtin "sorted") := by decide +kernel
theorem bt_int : bootBuiltins "int" = some (.type "int") := by decide +kernel
theorem bt_bool : bootBuiltins "bool" = some (.type "bool") := by decide +kernel
theorem bt_str : bootBuiltins "str" = some (.type "str") := by decide +kernel
theorem bt_list : bootBuiltins "list" = some (.type "list") := by decide +kernel
theorem bt_tuple : bootBuiltins "tuple" = some (.type "tuple") := by decide +kernel
theorem bt_dict : bootBuiltins "dict" = some (.type "dict") := by decide +kernel
/-- a chain of two comparisons as a test -/
theorem st_chain {X : Cx} {I : Inf} {w : WX} {a b c : Expr} {da db dc : DE} {pos : Pos} {op op' : CmpOp} {f g : W → W → Sto → R W} (ho : OpR X (compareOp op) (rdOp I f)) (ho' : OpR X (compareOp op') (rdOp I g)) (ha : PE X a (rdE I w da)) (hb : PE X b (rdE I w db)) (hc : PE X c (rdE I w dc))
    (hm : lastMarks [op, op'] [b, c] = false := by with_unfolding_all rfl) : PT X (.Compare a [op, op'] [b, c] pos) (rdT I w (dTb (dChain f g da db dc))) :=
  PT_imp (pt_chain ho ho' ha hb hc hm) fun σ H Q q => by
    obtain ⟨e, S, M, sim, sl, p⟩ := q
    have q : rdE I w (dChain f g da db dc) σ H (fun x H' => ∃ k, x = .bl k ∧ Q k H') := by
      refine ⟨e, S, M, sim, sl, ?_⟩
      have p : EndR I S M H (fun _ _ a b => a = b) Q (fun cls dd H' => w cls dd σ H') ((dChain f g da db dc e S).bind fun x S1 => match x with
        | .d (.bl b) => .ok b S1
        | _ => .bad) := p
      refine (EndR.bind (rel1 := RepW I) p).imp fun v H1 ⟨x, S1, M1, l1, s1, r1, p1⟩ => ?_
      split at p1
      · cases r1
        exact ⟨_, rfl, p1.here s1 rfl⟩
      · exact p1.elim
    obtain ⟨e, S, M, sim, sl, p⟩ := q
    refine ⟨e, S, M, sim, sl, (EndR.bind (rel1 := RepW I) p).imp fun v H1 ⟨x, S1, M1, l1, s1, r1, p1⟩ => ?_⟩
    refine ⟨e, S1, M1, s1, sl.mono l1, (EndR.bind (rel1 := RepW I) p1).imp fun u H2 ⟨y, S2, M2, l2, s2, r2, p2⟩ => ?_⟩
    refine ⟨x, y, S2, M2, s2, r1.mono l2, r2, ((EndR.bind (rel1 := RepW I) p2).ne (E' := E0)).imp fun z H3 ⟨d, S3, M3, l3, s3, r3, p3⟩ => ?_⟩
    split at p3
    · cases r3
      refine ⟨_, rfl, ?_⟩
      split at p3
      · rename_i h
        rw [if_pos h]
        refine ⟨e, S3, M3, s3, ((sl.mono l1).mono l2).mono l3, (EndR.bind (rel1 := RepW I) p3).imp fun u4 H4 ⟨z4, S4, M4, l4, s4, r4, p4⟩ => ?_⟩
        exact ⟨y, z4, S4, M4, s4, (r2.mono l3).mono l4, r4, p4.ne⟩
      · rename_i h
        rw [if_neg h]
        exact p3.here s3 (.bl _)
    · exact p3.elim
end Py

namespace Py
open PySem PySem.Spec PyProof.Rows L2
/-- variables given up ahead of a statement: what they hold is plain data from now on -/
@[simp] def sFrz (i : Nat) (s : DS) : DS := fun e S => match e[i]? with
  | some (some w) => bindS (frz w S) e fun w' S' => s (e.set i (some w')) S'
  | _ => .bad
@[simp] def dMkK (mm kk : Nat) (g : List W → Sto → R W) (a b : DA) : DE := fun e S => (a e S).bind fun ws S1 => (b e S1).bind fun us S2 => if ws.length = mm ∧ us.length = kk then g (ws ++ us) S2 else .bad
@[simp] def dProp (Fi : FnTab) (c f : Nat) (o : DE) : DE := fun e S => (o e S).bind fun x S1 => if isC c x S1 = true then (Fi f [x] S1).ne else .bad
section
variable {J : Jn} {X : Cx} {I : Inf} {w : WX} {F Fi : FnTab} {k : Nat} {a b c e o : Expr} {es rest : List Expr} {da db dc d_o : DE} {dr d2 : DA} {pos p p2 : Pos} {st : Stmt} {ds : DS} {x m : Str} {f n cc nf : Nat} {kws : List Keyword}
theorem frz_at {S S' : Sto} {M : List Addr} {H : Hp} {u u' : W} {v : V} (s : Sim I S M H) (r : RepW I M (mask S M H) u v) (e : frz u S = .ok u' S') : Sim I S' M H ∧ Le S M H S' M H ∧ RepW I M (mask S' M H) u' v := by
  cases u with
  | d x => cases e; exact ⟨s, Le.refl, r⟩
  | e c x => cases e
  | c i =>
    dsimp only [frz] at e
    split at e
    · rename_i ws hc
      split at e
      · rename_i xs hx
        cases e
        obtain ⟨a, ea, rfl⟩ := r
        obtain ⟨vs, ho, rw'⟩ := s.cell i _ a hc ea
        obtain ⟨s', l⟩ := s.kill hc
        refine ⟨s', l, .lst ?_ ((plainL_rep rw' hx).mono l.ex)⟩
        rw [mask_dead s hc ea]
        exact ho
      · cases e
    · cases e
theorem frz_ne (u : W) (S : Sto) : (∃ u' S', frz u S = .ok u' S') ∨ frz u S = .bad := by
  unfold frz
  repeat' split
  all_goals first
    | exact .inl ⟨_, _, rfl⟩
    | exact .inr rfl
theorem ss_frz {i : Nat} (h : PS X st (rdS I w ds)) : PS X st (rdS I w (sFrz i ds)) := PS_imp h fun D σ H ⟨env, S, M, s, sl, p⟩ => by
  unfold sFrz at p
  split at p
  · rename_i u hu
    rcases frz_ne u S with ⟨u', S', e⟩ | e
    · rw [e] at p
      obtain ⟨v, hv, r⟩ := sl.get i u hu
      obtain ⟨s', l, r'⟩ := frz_at s r e
      refine ⟨env.set i (some u'), S', M, s', ?_, EndS.up (r := ds (env.set i (some u')) S') p l⟩
      have h := (sl.mono l).set (i := i) r'
      have : σ.set i (some v) = σ := by
        refine List.ext_getElem? fun m => ?_
        rw [List.getElem?_set]
        by_cases q : i = m
        · subst q
          rw [if_pos rfl, hv, if_pos (List.getElem?_eq_some_iff.mp hv).1]
        · rw [if_neg q]
      rw [this] at h
      exact h
    · rw [e] at p
      exact p.elim
  · exact p.elim
theorem sk_nil : PK X [] (rdA I w dNil) := ⟨fun pos pins s σ H Q In ⟨e, S, M, sim, sl, p⟩ => pk_nil.run pos pins s σ H Q In (EndR.here (rel := RepWs I) p sim .nil)⟩
theorem sk_cons {nm : Option Str} {kpos : Pos} (ha : PE X a (rdE I w da)) (hr : PK X kws (rdA I w dr)) : PK X (⟨nm, a, kpos⟩ :: kws) (rdA I w (dCons da dr)) :=
  ⟨fun pos pins s σ H Q In h => (pk_cons ha hr).run pos pins s σ H Q In (by
    obtain ⟨e, S, M, sim, sl, p⟩ := h
    refine ⟨e, S, M, sim, sl, (EndR.bind (rel1 := RepW I) p).imp fun v H1 ⟨x, S1, M1, l1, s1, r1, p1⟩ => ?_⟩
    refine ⟨e, S1, M1, s1, sl.mono l1, (EndR.bind (rel1 := RepWs I) p1).imp fun u H2 ⟨y, S2, M2, l2, s2, r2, p2⟩ => ?_⟩
    exact p2.here s2 (.cons (r1.mono l2) r2))⟩
theorem sx_mkK {mm : Nat} {ks : List Str} (t : Cok J X w F Fi k) (h : J.sg.kw cc = some (x, f, n, mm, ks)) (hnf : (J.sg.fl cc).length = nf) (ha : PA X (e :: es) (rdA (J.inf X.K) w dr)) (hkw : PK X kws (rdA (J.inf X.K) w d2)) (hm1 : (e :: es).length = mm := by rfl) (hm2 : kws.length = ks.length := by rfl) (hg : Gl X x := by rfl)
    (hall : (backToKw pos (keywordEach kws X.env)).all (·.1.isSome) = true := by rfl) (hks : (backToKw pos (keywordEach kws X.env)).filterMap (·.1) = ks := by rfl)
    (hdb : (x == ("__debug__" : Str)) = false := by decide) (he : starEach (e :: es) X.env = (false, eval e X.env) :: starEach es X.env := by rfl)
    (hpl : ((backTo pos (starEach (e :: es) X.env)).any (·.1) || (backToKw pos (keywordEach kws X.env)).any (·.1.isNone)) = false := by rfl) :
    PE X (.Call (.Name x p) (e :: es) kws pos) (rdE (J.inf X.K) w (dMkK mm ks.length (mkF Fi cc f n nf) dr d2)) := by
  obtain ⟨C, fa, fd, ps, h1, h2, h3, h4, h5⟩ := t.makeK cc x f n mm ks h
  refine PE_imp (pe_makeK (E := WE w) h3 h4 t.room hg h2 h5 (fun σ => passAt t.tk σ) ha hkw hall hks hdb he hpl) fun σ H Q q => ?_
  obtain ⟨e, S, M, s, sl, p⟩ := q
  refine ⟨e, S, M, s, sl, (EndR.bind (rel1 := RepWs (J.inf X.K)) p).imp fun vs H1 ⟨ws, S1, M1, l1, s1, r1, p1⟩ => ?_⟩
  refine ⟨e, S1, M1, s1, sl.mono l1, (EndR.bind (rel1 := RepWs (J.inf X.K)) p1).imp fun zs H2 ⟨us, S2, M2, l2, s2, r2, p2⟩ => ?_⟩
  split at p2
  · rename_i hl
    refine ⟨(Paired.length r1).symm.trans hl.1, (Paired.length r2).symm.trans hl.2, fun y dy ny nd ne => mkF_end hnf s2 (RepWs.app (RepWs.mono l2 r1) r2) h1 p2 ny nd ne⟩
  · exact p2.elim
theorem sx_prop (t : Cok J X w F Fi k) (h : J.sg.prop f = some (cc, m)) (ho : PE X o (rdE (J.inf X.K) w d_o)) (hab : attributeBase o m X.env (eval o X.env) = eval o X.env := by rfl) : PE X (.Attribute o m pos) (rdE (J.inf X.K) w (dProp Fi cc f d_o)) := by
  obtain ⟨C, pr, g, fd, ps, h1, h2, h3, h4⟩ := t.prop f cc m h
  refine PE_imp (pe_prop (dvs := []) (E := E0) ho (t.cls cc C h1) h2 h3 t.room h4 .nil passL hab) fun σ H Q q => rd_one (f := fun _ x S1 => if isC cc x S1 = true then (Fi f [x] S1).ne else .bad) q fun y v e S M H s sl r p => ?_
  split at p
  · rename_i hy
    obtain ⟨b, C', dx, vs, rfl, g, hb⟩ := recv_at s r hy
    have : C' = C := by
      have g' : J.G cc = some C' := g
      rw [h1] at g'
      exact (Option.some.inj g').symm
    subst this
    exact ⟨b, dx, _, rfl, hb, rfl, [y], S, M, s, .cons r .nil, p.ne⟩
  · exact p.elim
end
end Py

/-! Py13: more of the language: enumerate. -/
namespace Py
open PySem PySem.Spec PyProof.Rows L2
/-! ### enumerate of a list or tuple -/
set_option maxHeartbeats 1000000 in
theorem enum_meets {v : Value} {o : Obj} {H : Heap → Prop} (B : Begins v o H) :
    Meets (Builtin.«enumerate.__new__» ⟨[.type "enumerate", v], []⟩) (fun _ R s => H s.heap ∧
      R (.ok (.ret (.ref (s.heap.push o).objs.size))) { s with heap := (s.heap.push o).push { cls := .type "enumerate", data := .fields #[.none, .bool false, .ref s.heap.objs.size, rawInt 0, .none, .none] } }) :=
  .of_wp fun pr wd A R s h => by
    obtain ⟨hp, g, d, tk, os⟩ := s
    obtain ⟨h1, h⟩ := h
    have hsub := sub_enumerate
    have its : ∀ {A' : Around} {E Q : Value → Shared → Prop}, Q (.ref hp.objs.size) ⟨hp.push o, g, d, tk, os⟩ → wpAny (model pr wd) A' (pyIter v) Q E ⟨hp, g, d, tk, os⟩ := fun q => B.iter _ _ _ _ ⟨hp, g, d, tk, os⟩ _ h1 q
    wp_walk using its
    refine wpAny_stack_any fun _ => wpAny_pure ?_; split
    · rename_i c _ _ _ _ _
      cases (c == Value.type "enumerate") <;> (wp_walk using its; exact ⟨_, rfl, h⟩)
    · wp_walk using its
      exact ⟨_, rfl, h⟩
theorem enum_call {prog : Program} {w : World} {A : Around} {E : Value → Shared → Prop} {s : Shared} {v : Value} {o : Obj} {H : Heap → Prop} {Q : Value → Shared → Prop} (B : Begins v o H) (h1 : H s.heap)
    (h : ∀ h', IsEnum h' (s.heap.objs.size + 1) s.heap.objs.size 0 .none → h'.get? s.heap.objs.size = some o → (∀ b o, s.heap.get? b = some o → h'.get? b = some o) → Q (.ref (s.heap.objs.size + 1)) { s with heap := h' }) :
    wpAny (model prog w) A (call (.type "enumerate") [v]) Q E s := by
  refine callType_new F.called_enumerate (by decide) (F.typeCall_enumerate_1 _) (F.newCall_enumerate_1 _) (fun x => F.args_object_init_2 x _) F.entry_enumerate_new (enum_meets B) ⟨h1, ?_⟩
  have hz : (s.heap.push o).objs.size = s.heap.objs.size + 1 := Heap.size_push ..
  show _ ∧ _
  rw [hz]
  have he : IsEnum ((s.heap.push o).push { cls := .type "enumerate", data := .fields #[.none, .bool false, .ref s.heap.objs.size, rawInt 0, .none, .none] }) (s.heap.objs.size + 1) s.heap.objs.size 0 .none := by
    have q := Heap.get?_push_size (s.heap.push o) (o := { cls := .type "enumerate", data := .fields #[.none, .bool false, .ref s.heap.objs.size, rawInt 0, .none, .none] }) rfl
    rwa [hz] at q
  exact ⟨⟨_, he, rfl⟩, h _ he (Heap.get?_push_of_some _ (Heap.get?_push_size _ B.free)) fun b o x => Heap.get?_push_of_some _ (Heap.get?_push_of_some _ x)⟩
/-- the tuple at a, each item in a new pair -/
def IteT (K : PySem.W.Frag) (a : Addr) : It :=
  ⟨fun i H => ∃ (xs : List V) (x : V), SqT K H a xs ∧ xs[i]? = some x, fun i H v H' => ∃ T x, v = .ref T ∧ H T = none ∧ H' = upd H T (.tup [.int (i : Nat), x]) ∧ ∀ xs, SqT K H a xs → xs[i]? = some x, fun i H => ∃ xs : List V, SqT K H a xs ∧ xs.length = i⟩
theorem turn_enumT {P : Program} {w : World} {K : PySem.W.Frag} {elts : List Expr} {kk : Nat} {tpos : Pos} {a e it : Addr} (ea : e ≠ a) (ia : it ≠ a) :
    Turn P w K (.Tuple elts kk tpos) (IteT K a) [e, it] e (fun i h => (∃ old, IsEnum h e it ((i : Nat) : Int) old) ∧ h.IsTupleIter it a i ∧ e ≠ it) where
  mem := by simp
  obj := fun i h st b hb => by
    obtain ⟨⟨old, he⟩, ⟨o, ho, hc, hd⟩, _⟩ := st
    rcases (by simpa using hb : b = e ∨ b = it) with rfl | rfl
    · exact ⟨_, he, fun v q => nomatch q⟩
    · exact ⟨o, ho, fun v q => by rw [hd] at q; cases q⟩
  keep := fun i h h' st k => let ⟨⟨old, he⟩, hi, hne⟩ := st; ⟨⟨old, k e (by simp) _ he⟩, hi.at fun o q => k it (by simp) o q, hne⟩
  item := by
    intro X hP hw hK hc i pins s σ H E In hf st hg
    subst hP hw hK
    obtain ⟨⟨old, he⟩, hit, hne⟩ := st
    obtain ⟨xs, x, hq, hx⟩ := hg
    obtain ⟨its, rv, p, hz⟩ := In.tuple hq
    obtain ⟨u, hu, ru⟩ := rv.get hx
    have hel : e < s.heap.objs.size := Heap.lt_size he
    have hil : it < s.heap.objs.size := by obtain ⟨_, q, _⟩ := hit; exact Heap.lt_size q
    have hlt : i < its.toArray.size := by
      have := (List.getElem?_eq_some_iff.mp hu).1
      simpa using this
    refine wpAny_pyNext_enum_itemC (Draws.tuple (A := X.A.in1) (In.ok.hd hc) it a (Ne.symm ia) its.toArray) he ⟨hit, p⟩ hlt hne (by simp [hne, ea]) fun y h' tk hy ho hit' hT hsz hk => ?_
    have : y = u := by
      have hy : its.toArray[i]? = some y := hy
      rw [List.getElem?_toArray, hu] at hy
      exact (Option.some.inj hy).symm
    subst this
    obtain ⟨hit', _⟩ := hit'
    refine ⟨_, rfl, wpAny_letOwnedTupleGo_enum (s := { s with heap := h', toks := tk + 1 }) ho fun h'' he' sb => ?_⟩
    have hT2 : h''.get? s.heap.objs.size = some { cls := .type "tuple", data := .seq #[.int i tk, y] } := (sb.2 _ (Nat.ne_of_gt hel)).trans hT
    have nw : ObjOk X.prog X.w (upd H s.heap.objs.size (.tup [.int (i : Nat), x])) h'' s.heap.objs.size (.tup [.int (i : Nat), x]) :=
      ⟨by show 2 ≤ sizeLine; decide, [.int i tk, y], .cons ⟨_, rfl⟩ (.cons ru .nil), ⟨_, hT2, rfl, _, rfl⟩⟩
    have I1 : Inv X pins σ (upd H s.heap.objs.size (.tup [.int (i : Nat), x])) { s with heap := h'', toks := tk + 1 } :=
      In.turnedNew (ch := [e, it]) (fun b ob hb q => (sb.2 b (fun z => hb (by simp [z]))).trans (hk b ob (fun z => hb (by simp [z])) (fun z => hb (by simp [z])) q)) hf (Nat.le_refl _) nw
    refine ⟨.ref s.heap.objs.size, _, I1, rfl, ⟨_, x, rfl, In.hok.fresh (Nat.le_refl _), rfl, fun ys hy => by rw [In.tuple_inj hy hq]; exact hx⟩, ⟨⟨y, ?_⟩, hit'.at fun o q => (sb.2 it (Ne.symm hne)).trans q, hne⟩, fun b hb => ?_⟩
    · rw [show ((i + 1 : Nat) : Int) = (i : Int) + 1 by omega]; exact he'
    · have hb' : b < s.heap.objs.size := by
        rcases (by simpa using hb : b = e ∨ b = it) with rfl | rfl
        · exact hel
        · exact hil
      rw [upd_ne (Nat.ne_of_lt hb')]
      exact (hf b hb).1
  done := by
    intro X hP hw hK hc i pins s σ H E In hf st hg
    subst hP hw hK
    obtain ⟨⟨old, he⟩, hit, hne⟩ := st
    obtain ⟨xs, hq, hx⟩ := hg
    obtain ⟨its, rv, p, hz⟩ := In.tuple hq
    obtain ⟨f0, f1, f2, f3, f4, f5⟩ := hf it (by simp)
    have hl := rv.length
    have hi : i = its.toArray.size := by simp; omega
    subst hi
    exact wpAny_pyNext_enum_endD (Draws.tuple (A := X.A.in1) (In.ok.hd hc) it a (Ne.symm ia) its.toArray) he ⟨hit, p⟩ fun h' eb => ⟨rfl, In.turned (t' := s.toks) (fun b o hb q => eb b o hb q) f0 f1 f3 f4 f5⟩
  self := fun A i s Q E st h => let ⟨⟨_, he⟩, _⟩ := st; wpAny_pyIter_enum he h
def iEnumA (K : PySem.W.Frag) (ta : TA) : TI := fun σ H R => ta σ H fun vs H1 => ∃ a xs, vs = [.ref a] ∧ ((SqL K H1 a xs ∧ R (Ite K a) H1) ∨ (SqT K H1 a xs ∧ R (IteT K a) H1))
theorem pi_enumA {X : Cx} {e : Expr} {ta : TA} {p pos tpos : Pos} {elts : List Expr} {kk : Nat} (hg : Gl X "enumerate") (hm : X.mg "enumerate" = none) (ha : PA X [e] ta) (hs : starEach [e] X.env = [(false, eval e X.env)] := by rfl) :
    PI X (.Tuple elts kk tpos) (.Call (.Name "enumerate" p) [e] [] pos) (iEnumA X.K ta) := by
  refine ⟨fun pins s σ H R In h => ?_⟩
  refine Call_ (ld_blt In hg hm boot_enumerate (PyProof.Rows.callWith_type1 (thn (ha.run pos pins s σ H _ In h) fun us s1 ⟨vs, H1, I1, r1, q1⟩ => ?_) hs rfl))
  obtain ⟨a, xs, rfl, q1⟩ := q1
  cases r1 with
  | cons r rr =>
    cases rr
    cases r
    have fp : ∀ b ∈ [s1.heap.objs.size + 1, s1.heap.objs.size], FpOk X pins H1 b := fun b hb => by
      have hle : s1.heap.objs.size ≤ b := by
        rcases (by simpa using hb : b = s1.heap.objs.size + 1 ∨ b = s1.heap.objs.size) with rfl | rfl
        · exact Nat.le_add_right _ _
        · exact Nat.le_refl _
      exact I1.fpOk hle (I1.hok.fresh hle)
    rcases q1 with ⟨hq, q⟩ | ⟨hq, q⟩
    · obtain ⟨its, rv, p', hz⟩ := I1.list hq
      refine enum_call (begins_list a its.toArray) p'.isList fun h' he hit hk => wpAny_pyIter_enum he ?_
      exact ⟨_, [s1.heap.objs.size + 1, s1.heap.objs.size], _, _, H1, rfl, I1.kept (t' := s1.toks) hk, turn_enum a (s1.heap.objs.size + 1) s1.heap.objs.size, ⟨⟨.none, he⟩, ⟨_, hit, rfl, rfl⟩, Nat.succ_ne_self _⟩, fp, q⟩
    · obtain ⟨its, rv, p', hz⟩ := I1.tuple hq
      have hlt : a < s1.heap.objs.size := by obtain ⟨o, ho, _⟩ := p'; exact Heap.lt_size ho
      refine enum_call (begins_tuple a its.toArray) p' fun h' he hit hk => wpAny_pyIter_enum he ?_
      exact ⟨_, [s1.heap.objs.size + 1, s1.heap.objs.size], _, _, H1, rfl, I1.kept (t' := s1.toks) hk, turn_enumT (a := a) (e := s1.heap.objs.size + 1) (it := s1.heap.objs.size) (Nat.ne_of_gt (Nat.lt_succ_of_lt hlt)) (Nat.ne_of_gt hlt), ⟨⟨.none, he⟩, ⟨_, hit, rfl, rfl⟩, Nat.succ_ne_self _⟩, fp, q⟩
/-- the items with their places -/
def enumP (xs : List D) : List W := xs.zipIdx.map fun p => W.d (.tup [.int (p.2 : Nat), p.1])
def enumO : W → Sto → Option (List W × (Sto → Prop))
  | .d (.tup xs), _ => some (enumP xs, fun _ => True)
  | x, S => match lsOf x S with
    | some ws => match plainL ws with
      | some xs => some (enumP xs, fun S' => lsOf x S' = some ws)
      | none => none
    | none => none
def iEnum (a : DE) : DI := fun e S => (a e S).bind fun x S1 => ofO (enumO x S1) S1
theorem enumP_len {xs : List D} : (enumP xs).length = xs.length := by unfold enumP; simp
theorem enumP_get {xs : List D} {i : Nat} {x : W} (h : (enumP xs)[i]? = some x) : ∃ d, xs[i]? = some d ∧ x = .d (.tup [.int (i : Nat), d]) := by
  unfold enumP at h
  rw [List.getElem?_map, List.getElem?_zipIdx] at h
  cases q : xs[i]? with
  | none => rw [q] at h; cases h
  | some d =>
    rw [q] at h
    simp at h
    exact ⟨d, rfl, h.symm⟩
section
variable {J : Jn} {X : Cx} {I : Inf} {w : WX} {F Fi : FnTab} {k : Nat} {a b c e o tg iter elt : Expr} {da db dc d_o el : DE} {pos p p2 : Pos}
theorem wk_enumL {a : Addr} {xs : List D} {gd : Sto → Prop} {S : Sto} {M : List Addr} {H : Hp} (h : ∀ S2 M2 Hs, Le S M H S2 M2 Hs → Sim I S2 M2 Hs → gd S2 → ∃ vs, SqL I.K Hs a vs ∧ Reps I (mask S2 M2 Hs) xs vs) : WalkI I (Ite I.K a) (enumP xs) gd S M H where
  item := fun S2 M2 Hs H2 l s ex hg i x hx => by
    obtain ⟨vs, h1, r1⟩ := h S2 M2 Hs l s hg
    obtain ⟨d, e1, rfl⟩ := enumP_get hx
    obtain ⟨v, f1, g1⟩ := reps_get r1 e1
    refine ⟨⟨vs, v, ex_l ex h1, f1⟩, fun w H3 hy => .inr ?_⟩
    obtain ⟨T, v', rfl, nT, rfl, k1⟩ := hy
    have q := k1 vs (ex_l ex h1)
    rw [f1] at q
    cases q
    exact ⟨T, [.int (i : Nat), v], [.int (i : Nat), d], nT, rfl, rfl, rfl, .cons (.int _) (.cons g1 .nil)⟩
  stop := fun S2 M2 Hs H2 l s ex hg => by
    obtain ⟨vs, h1, r1⟩ := h S2 M2 Hs l s hg
    exact ⟨vs, ex_l ex h1, by rw [enumP_len, r1.len]; exact Nat.le_refl _⟩
theorem wk_enumT {a : Addr} {xs : List D} {gd : Sto → Prop} {S : Sto} {M : List Addr} {H : Hp} (h : ∀ S2 M2 Hs, Le S M H S2 M2 Hs → Sim I S2 M2 Hs → gd S2 → ∃ vs, SqT I.K Hs a vs ∧ Reps I (mask S2 M2 Hs) xs vs) : WalkI I (IteT I.K a) (enumP xs) gd S M H where
  item := fun S2 M2 Hs H2 l s ex hg i x hx => by
    obtain ⟨vs, h1, r1⟩ := h S2 M2 Hs l s hg
    obtain ⟨d, e1, rfl⟩ := enumP_get hx
    obtain ⟨v, f1, g1⟩ := reps_get r1 e1
    refine ⟨⟨vs, v, ex_t ex h1, f1⟩, fun w H3 hy => .inr ?_⟩
    obtain ⟨T, v', rfl, nT, rfl, k1⟩ := hy
    have q := k1 vs (ex_t ex h1)
    rw [f1] at q
    cases q
    exact ⟨T, [.int (i : Nat), v], [.int (i : Nat), d], nT, rfl, rfl, rfl, .cons (.int _) (.cons g1 .nil)⟩
  stop := fun S2 M2 Hs H2 l s ex hg => by
    obtain ⟨vs, h1, r1⟩ := h S2 M2 Hs l s hg
    exact ⟨vs, ex_t ex h1, by rw [enumP_len, r1.len]⟩
theorem si_enumerate {elts : List Expr} {kk : Nat} {tpos : Pos} (t : Cok J X w F Fi k) (hb : J.sg.blt "enumerate" = true) (ha : PE X a (rdE (J.inf X.K) w da)) (hg : Gl X "enumerate" := by rfl) (hs : starEach [a] X.env = [(false, eval a X.env)] := by rfl)
    (hs2 : starEach [a] X.env = (false, eval a X.env) :: starEach [] X.env := by rfl) : PI X (.Tuple elts kk tpos) (.Call (.Name "enumerate" p) [a] [] pos) (rdI (J.inf X.K) w (iEnum da)) :=
  PI_imp (pi_enumA hg (t.glb _ hb) (pa_cons ha pa_nil hs2) hs) fun σ H R ⟨env, S, M, sim, sl, p⟩ => by
    refine rdI_at (R := R) (f := fun x S1 => ofO (enumO x S1) S1) sim sl p fun x v S1 M1 H1 l1 s1 sl1 r1 p1 => ?_
    obtain ⟨q, hq, kk⟩ := EndI.of p1 s1
    unfold enumO at hq
    split at hq
    · cases hq
      cases r1 with
      | tup h1 q1 =>
        exact ⟨_, _, rfl, .inr ⟨ex_t mask_ex h1, kk _ (wk_enumT fun S3 M3 Hs l s3 _ => ⟨_, ex_t (l.ex.trans mask_ex) h1, q1.mono l.ex⟩)⟩⟩
    · split at hq
      · rename_i ws ea
        split at hq
        · rename_i xs hx
          cases hq
          obtain ⟨b, vs, rfl, h1, q1⟩ := lsOf_at s1 r1 ea
          refine ⟨b, vs, rfl, .inl ⟨h1, kk _ (wk_enumL fun S3 M3 Hs l s3 hg => ?_)⟩⟩
          obtain ⟨b', vs', e1, h1', q1'⟩ := lsOf_at s3 (r1.mono l) hg
          cases e1
          exact ⟨vs', h1', plainL_reps q1' hx⟩
        · cases hq
      · cases hq
end
end Py
/-! ### lists that hold cells: given up, numbered anew -/
namespace Py
open PySem PySem.Spec PyProof.Rows L2
/-- each item given up -/
def frzs : List W → Sto → Option (List D × Sto)
  | [], S => some ([], S)
  | .d x :: r, S => match frzs r S with
    | some (xs, S') => some (x :: xs, S')
    | none => none
  | .c j :: r, S => match S[j]? with
    | some (.lst us) => match plainL us with
      | some ys => match frzs r (S.set j .dead) with
        | some (xs, S') => some (.lst ys :: xs, S')
        | none => none
      | none => none
    | _ => none
  | .e _ _ :: _, _ => none
/-- a list of lists given up -/
def frz2 : W → Sto → R W
  | .d x, S => .ok (.d x) S
  | .c i, S => match S[i]? with
    | some (.lst ws) => match frzs ws S with
      | some (xs, S') => match S'[i]? with
        | some (.lst _) => .ok (.d (.lst xs)) (S'.set i .dead)
        | _ => .bad
      | none => .bad
    | _ => .bad
  | .e _ _, _ => .bad
def sFrz2 (i : Nat) (s : DS) : DS := fun e S => match e[i]? with
  | some (some w) => bindS (frz2 w S) e fun w' S' => s (e.set i (some w')) S'
  | _ => .bad
/-- the cell is numbered anew, as the last one -/
def mv : W → Sto → R W
  | .d x, S => .ok (.d x) S
  | .c i, S => match S[i]? with
    | some .dead => .bad
    | some o => .ok (.c S.length) (S.set i .dead ++ [o])
    | none => .bad
  | .e _ _, _ => .bad
def sMv (i : Nat) (s : DS) : DS := fun e S => match e[i]? with
  | some (some w) => bindS (mv w S) e fun w' S' => s (e.set i (some w')) S'
  | _ => .bad
section
variable {J : Jn} {X : Cx} {I : Inf} {w : WX} {F Fi : FnTab} {k : Nat} {st : Stmt} {ds : DS}
theorem frzs_at {H : Hp} {M : List Addr} : ∀ {ws : List W} {vs : List V} {S S' : Sto} {xs : List D}, Sim I S M H → RepWs I M (mask S M H) ws vs → frzs ws S = some (xs, S') → Sim I S' M H ∧ Le S M H S' M H ∧ Reps I (mask S' M H) xs vs
  | [], _, S, S', xs, s, .nil, e => by
    cases e
    exact ⟨s, Le.refl, .nil⟩
  | .d x :: r, _, S, S', xs, s, .cons h t, e => by
    unfold frzs at e
    split at e
    · rename_i ys S2 q
      cases e
      obtain ⟨a, b, c⟩ := frzs_at s t q
      exact ⟨a, b, .cons (Rep.mono b.ex h) c⟩
    · cases e
  | .c j :: r, _, S, S', xs, s, .cons h t, e => by
    unfold frzs at e
    split at e
    · rename_i us hc
      split at e
      · rename_i ys hy
        split at e
        · rename_i zs S2 q
          cases e
          obtain ⟨a, ea, rfl⟩ := h
          obtain ⟨vs, ho, rw'⟩ := s.cell j _ a hc ea
          obtain ⟨s', l⟩ := s.kill hc
          obtain ⟨a1, b1, c1⟩ := frzs_at s' (RepWs.mono l t) q
          have h1 : Rep I (mask (S.set j .dead) M H) (.lst ys) (.ref a) := .lst (by rw [mask_dead s hc ea]; exact ho) ((plainL_rep rw' hy).mono l.ex)
          exact ⟨a1, l.trans b1, .cons (h1.mono b1.ex) c1⟩
        · cases e
      · cases e
    · cases e
  | .e _ _ :: _, _, S, S', xs, s, .cons h t, e => by
    unfold frzs at e
    cases e
theorem frz2_at {S S' : Sto} {M : List Addr} {H : Hp} {u u' : W} {v : V} (s : Sim I S M H) (r : RepW I M (mask S M H) u v) (e : frz2 u S = .ok u' S') : ∃ M', Sim I S' M' H ∧ Le S M H S' M' H ∧ RepW I M' (mask S' M' H) u' v := by
  refine ⟨M, ?_⟩
  cases u with
  | d x => cases e; exact ⟨s, Le.refl, r⟩
  | e c x => cases e
  | c i =>
    unfold frz2 at e
    dsimp only at e
    split at e
    · rename_i ws hc
      split at e
      · rename_i xs S1 hx
        split at e
        · rename_i h1
          cases e
          obtain ⟨a, ea, rfl⟩ := r
          obtain ⟨vs, ho, rw'⟩ := s.cell i _ a hc ea
          obtain ⟨s1, l1, r1⟩ := frzs_at s rw' hx
          obtain ⟨s2, l2⟩ := s1.kill h1
          refine ⟨s2, l1.trans l2, .lst ?_ (r1.mono l2.ex)⟩
          rw [mask_dead s1 h1 ea]
          exact ho
        · cases e
      · cases e
    · cases e
theorem mv_at {S S' : Sto} {M : List Addr} {H : Hp} {u u' : W} {v : V} (s : Sim I S M H) (r : RepW I M (mask S M H) u v) (e : mv u S = .ok u' S') : ∃ M', Sim I S' M' H ∧ Le S M H S' M' H ∧ RepW I M' (mask S' M' H) u' v := by
  cases u with
  | d x => cases e; exact ⟨M, s, Le.refl, r⟩
  | e c x => cases e
  | c i =>
    unfold mv at e
    dsimp only at e
    split at e
    · cases e
    · rename_i o hne hc
      cases e
      obtain ⟨a, ea, rfl⟩ := r
      obtain ⟨s', l⟩ := s.move hc ea hne
      refine ⟨M ++ [a], s', l, a, ?_, rfl⟩
      rw [← s.len, List.getElem?_append_right (Nat.le_refl _), Nat.sub_self]
      rfl
    · cases e
/-- a slot's value put into another form ahead of a statement -/
theorem ss_form {f : W → Sto → R W} {i : Nat} (hne : ∀ u S, (∃ u' S', f u S = .ok u' S') ∨ f u S = .bad) (hf : ∀ {S S' : Sto} {M : List Addr} {H : Hp} {u u' : W} {v : V}, Sim I S M H → RepW I M (mask S M H) u v → f u S = .ok u' S' → ∃ M', Sim I S' M' H ∧ Le S M H S' M' H ∧ RepW I M' (mask S' M' H) u' v)
    (h : PS X st (rdS I w ds)) : PS X st (rdS I w fun e S => match e[i]? with
      | some (some w) => bindS (f w S) e fun w' S' => ds (e.set i (some w')) S'
      | _ => .bad) := PS_imp h fun D σ H ⟨env, S, M, s, sl, p⟩ => by
  dsimp only at p
  split at p
  · rename_i u hu
    rcases hne u S with ⟨u', S', e⟩ | e
    · rw [e] at p
      obtain ⟨v, hv, r⟩ := sl.get i u hu
      obtain ⟨M', s', l, r'⟩ := hf s r e
      refine ⟨env.set i (some u'), S', M', s', ?_, EndS.up (r := ds (env.set i (some u')) S') p l⟩
      have h := (sl.mono l).set (i := i) r'
      have : σ.set i (some v) = σ := by
        refine List.ext_getElem? fun m => ?_
        rw [List.getElem?_set]
        by_cases q : i = m
        · subst q
          rw [if_pos rfl, hv, if_pos (List.getElem?_eq_some_iff.mp hv).1]
        · rw [if_neg q]
      rwa [this] at h
    · rw [e] at p
      exact p.elim
  · exact p.elim
theorem frz2_ne (u : W) (S : Sto) : (∃ u' S', frz2 u S = .ok u' S') ∨ frz2 u S = .bad := by
  unfold frz2
  repeat' split
  all_goals first
    | exact .inl ⟨_, _, rfl⟩
    | exact .inr rfl
theorem mv_ne (u : W) (S : Sto) : (∃ u' S', mv u S = .ok u' S') ∨ mv u S = .bad := by
  unfold mv
  repeat' split
  all_goals first
    | exact .inl ⟨_, _, rfl⟩
    | exact .inr rfl
theorem ss_frz2 {i : Nat} (h : PS X st (rdS I w ds)) : PS X st (rdS I w (sFrz2 i ds)) := ss_form frz2_ne frz2_at h
theorem ss_mv {i : Nat} (h : PS X st (rdS I w ds)) : PS X st (rdS I w (sMv i ds)) := ss_form mv_ne mv_at h
end
end Py
/-! ### in, not in; methods of built-in types -/
namespace Py
open PySem PySem.Spec PyProof.Rows L2
/-- is the text one sign -/
def sign1 (x : Str) : Option Nat := match x.cps.toList with
  | [c] => some c
  | _ => none
def inS (x z : Str) : Option Bool := (sign1 x).map fun c => decide (c ∈ z.cps.toList)
def flatD : D → Bool
  | .non => true | .bl _ => true | .int _ => true | .str _ => true
  | _ => false
def eqD0 : D → D → Bool
  | .non, .non => true
  | .bl a, .bl b => a == b
  | .bl a, .int b => (if a then 1 else 0) == b
  | .int a, .bl b => a == (if b then 1 else 0)
  | .int a, .int b => a == b
  | .str a, .str b => a == b
  | _, _ => false
def inT (neg : Bool) (x : D) (ys : List D) (S : Sto) : R W := if flatD x = true ∧ ys.all flatD = true then .ok (.d (.bl (if neg then !(ys.any fun y => eqD0 y x) else ys.any fun y => eqD0 y x))) S else .bad
def inL (neg : Bool) (x y : W) (S : Sto) : R W := match wpy x S, wpy y S with
  | some d, some (.list ds) => if shp d = true ∧ shp (.list ds) = true then .ok (.d (.bl (if neg then !ds.any fun z => PyData.eqv z d else ds.any fun z => PyData.eqv z d))) S else .bad
  | _, _ => .bad
def opIn : W → W → Sto → R W
  | .d (.str x), .d (.str z), S => match inS x z with
    | some b => .ok (.d (.bl b)) S
    | none => .bad
  | .d x, .d (.tup ys), S => inT false x ys S
  | x, y, S => inL false x y S
def opNotIn : W → W → Sto → R W
  | .d (.str x), .d (.str z), S => match inS x z with
    | some b => .ok (.d (.bl (!b))) S
    | none => .bad
  | .d x, .d (.tup ys), S => inT true x ys S
  | x, y, S => inL true x y S
section
variable {J : Jn} {X : Cx} {I : Inf} {w : WX} {F Fi : FnTab} {k : Nat} {a b c e o : Expr} {es rest : List Expr} {da db dc d_o : DE} {dr : DA} {pos p p2 : Pos}
theorem sign1_at {x : Str} {c : Nat} (h : sign1 x = some c) : x = ⟨#[c]⟩ := by
  unfold sign1 at h
  split at h
  · rename_i d hd
    cases h
    obtain ⟨⟨l⟩⟩ := x
    have : l = [c] := hd
    rw [this]
  · cases h
theorem flat_rep {H : Hp} {x : D} {v : V} (r : Rep I H x v) (h : flatD x = true) : flatV v = true := by
  cases r <;> first | rfl | cases h
theorem flats_rep {H : Hp} : ∀ {xs : List D} {vs : List V}, Reps I H xs vs → xs.all flatD = true → vs.all flatV = true
  | [], _, .nil, _ => rfl
  | x :: xs, _, .cons r t, h => by
    rw [List.all_cons, Bool.and_eq_true] at h
    rw [List.all_cons, flat_rep r h.1, flats_rep t h.2]
    rfl
theorem eqD0_rep {H : Hp} {x y : D} {v u : V} (rx : Rep I H x v) (ry : Rep I H y u) (h : flatD x = true) (h' : flatD y = true) : eqD0 x y = eqV v u := by
  cases rx <;> first | cases h | skip
  all_goals (cases ry <;> first | rfl | cases h')
theorem any_rep {H : Hp} {x : D} {v : V} (rx : Rep I H x v) (hx : flatD x = true) : ∀ {ys : List D} {us : List V}, Reps I H ys us → ys.all flatD = true → (ys.any fun y => eqD0 y x) = inV v us
  | [], _, .nil, _ => rfl
  | y :: ys, _, .cons r t, h => by
    rw [List.all_cons, Bool.and_eq_true] at h
    unfold inV
    rw [List.any_cons, List.any_cons, eqD0_rep r rx h.1 hx, any_rep rx hx t h.2]
    rfl
theorem o_in (hu : X.A.units + 65 < cLine) : OpR X (compareOp .In) (rdOp ⟨X.K, I.G, I.fl, I.X, I.ex⟩ opIn) := by
  intro pins s σ H v u ov ou Q In rv ru hh
  obtain ⟨x, y, S, M, sim, rx, ry, p⟩ := hh
  unfold opIn at p
  split at p
  · split at p
    · rename_i _ _ x z _ b hb
      cases rx
      cases ry
      unfold inS at hb
      cases hs : sign1 x with
      | none => rw [hs] at hb; cases hb
      | some c =>
        rw [hs] at hb
        cases hb
        exact op_in_sign pins s σ H _ _ ov ou Q In rv ru ⟨c, z, by rw [sign1_at hs], rfl, p.here sim (.bl _)⟩
    · exact p.elim
  · unfold inT at p
    split at p
    · rename_i h
      cases ry with
      | tup h1 r1 =>
        refine op_in_seq pins s σ H _ _ ov ou Q In rv ru ⟨_, _, rfl, .inr (ex_t mask_ex h1), flat_rep (I := ⟨X.K, I.G, I.fl, I.X, I.ex⟩) rx h.1, flats_rep r1 h.2, ?_⟩
        rw [← any_rep (I := ⟨X.K, I.G, I.fl, I.X, I.ex⟩) rx h.1 r1 h.2]
        exact p.here sim (.bl _)
    · exact p.elim
  · unfold inL at p
    split at p
    · rename_i d ds hd he
      split at p
      · rename_i h
        exact op_inD hu pins s σ H _ _ ov ou Q In rv ru ⟨d, ds, wpy_dp sim rx hd, wpy_dp sim ry he, h.1, h.2, p.here sim (.bl _)⟩
      · exact p.elim
    · exact p.elim
theorem o_notin (hu : X.A.units + 65 < cLine) : OpR X (compareOp .NotIn) (rdOp ⟨X.K, I.G, I.fl, I.X, I.ex⟩ opNotIn) := by
  intro pins s σ H v u ov ou Q In rv ru hh
  obtain ⟨x, y, S, M, sim, rx, ry, p⟩ := hh
  unfold opNotIn at p
  split at p
  · split at p
    · rename_i _ _ x z _ b hb
      cases rx
      cases ry
      unfold inS at hb
      cases hs : sign1 x with
      | none => rw [hs] at hb; cases hb
      | some c =>
        rw [hs] at hb
        cases hb
        exact op_notIn_sign pins s σ H _ _ ov ou Q In rv ru ⟨c, z, by rw [sign1_at hs], rfl, p.here sim (.bl _)⟩
    · exact p.elim
  · unfold inT at p
    split at p
    · rename_i h
      cases ry with
      | tup h1 r1 =>
        refine op_notIn_seq pins s σ H _ _ ov ou Q In rv ru ⟨_, _, rfl, .inr (ex_t mask_ex h1), flat_rep (I := ⟨X.K, I.G, I.fl, I.X, I.ex⟩) rx h.1, flats_rep r1 h.2, ?_⟩
        rw [← any_rep (I := ⟨X.K, I.G, I.fl, I.X, I.ex⟩) rx h.1 r1 h.2]
        exact p.here sim (.bl _)
    · exact p.elim
  · unfold inL at p
    split at p
    · rename_i d ds hd he
      split at p
      · rename_i h
        exact op_notInD hu pins s σ H _ _ ov ou Q In rv ru ⟨d, ds, wpy_dp sim rx hd, wpy_dp sim ry he, h.1, h.2, p.here sim (.bl _)⟩
      · exact p.elim
    · exact p.elim
/-! methods of texts and lists -/
def tyS (T : String) : W → Sto → Bool
  | .d (.str _), _ => T == "str"
  | .d (.lst _), _ => T == "list"
  | .d (.lsx _), _ => T == "list"
  | .c i, S => match S[i]? with
    | some (.lst _) => T == "list"
    | _ => false
  | _, _ => false
def dBM (T : String) (g : W → List W → Sto → R W) (a : DE) (r : DA) : DE := fun e S => (a e S).bind fun x S1 => if tyS T x S1 = true then ((r e S1).bind fun ws S2 => (g x ws S2).ne) else .bad
def rdMt (I : Inf) (g : W → List W → Sto → R W) : V → List V → Hp → VK → Prop := fun x xs H Q => ∃ (u : W) (us : List W) (S : Sto) (M : List Addr), Sim I S M H ∧ RepW I M (mask S M H) u x ∧ RepWs I M (mask S M H) us xs ∧ EndR I S M H (RepW I) Q E0 (g u us S)
theorem tyS_at {T : String} {S : Sto} {M : List Addr} {H : Hp} {x : W} {v : V} (s : Sim I S M H) (r : RepW I M (mask S M H) x v) (h : tyS T x S = true) : tyV I.K T v H := by
  unfold tyS at h
  split at h
  · cases r; exact beq_iff_eq.mp h
  · cases r with
    | lst h1 q => exact .inl ⟨beq_iff_eq.mp h, _, .inl (.inl (mask_ex _ _ h1))⟩
  · cases r with
    | lsx h1 q => exact .inl ⟨beq_iff_eq.mp h, _, ex_l mask_ex h1⟩
  · split at h
    · obtain ⟨a, ea, rfl⟩ := r
      obtain ⟨vs, ho, q⟩ := s.cell _ _ a (by assumption) ea
      exact .inl ⟨beq_iff_eq.mp h, _, .inl (.inl ho)⟩
    · cases h
  · cases h
theorem sx_bm {T id : String} {name : Str} {apos cpos : Pos} {g : W → List W → Sto → R W} (pa : PlainAttrs T) (slot : Slot T name id) (hty : typeOf (.builtin id) = pure (.type "method_descriptor")) (hm : MtR X id (rdMt ⟨X.K, I.G, I.fl, I.X, I.ex⟩ g)) (ho : PE X o (rdE ⟨X.K, I.G, I.fl, I.X, I.ex⟩ w d_o)) (ha : PA X (e :: es) (rdA ⟨X.K, I.G, I.fl, I.X, I.ex⟩ w dr))
    (hbase : attributeBase o name X.env (eval o X.env) = eval o X.env := by rfl)
    (hfew : ((backTo cpos (starEach (e :: es) X.env)).all (fun x => !x.1) && (backToKw cpos (keywordEach [] X.env)).all (fun x => x.1.isSome)
      && decide ((e :: es).length + ([] : List Keyword).length + (if ([] : List Keyword).isEmpty then 0 else 1) < 30)) = true := by rfl)
    (hline : (apos.endLine == cpos.line) = true := by rfl) (hs : starEach (e :: es) X.env = (false, eval e X.env) :: starEach es X.env := by rfl) (hplain : (backTo cpos (starEach es X.env)).any (·.1) = false := by rfl) :
    PE X (.Call (.Attribute o name apos) (e :: es) [] cpos) (rdE ⟨X.K, I.G, I.fl, I.X, I.ex⟩ w (dBM T g d_o dr)) :=
  PE_imp (pe_bm pa slot hty hm ho ha hbase hfew hline hs hplain) fun σ H Q q => by
    obtain ⟨e, S, M, s, sl, p⟩ := q
    refine ⟨e, S, M, s, sl, (EndR.bind (rel1 := RepW ⟨X.K, I.G, I.fl, I.X, I.ex⟩) p).imp fun v1 H1 ⟨x, S1, M1, l1, s1, r1, p1⟩ => ?_⟩
    split at p1
    · rename_i hx
      refine ⟨tyS_at s1 r1 hx, e, S1, M1, s1, sl.mono l1, (EndR.bind (rel1 := RepWs ⟨X.K, I.G, I.fl, I.X, I.ex⟩) p1).imp fun v2 H2 ⟨y, S2, M2, l2, s2, r2, p2⟩ => ?_⟩
      exact ⟨x, y, S2, M2, s2, r1.mono l2, r2, p2.ne⟩
    · exact p1.elim
theorem sx_bm0 {T id : String} {name : Str} {apos cpos : Pos} {g : W → List W → Sto → R W} (pa : PlainAttrs T) (slot : Slot T name id) (hty : typeOf (.builtin id) = pure (.type "method_descriptor")) (hm : MtR X id (rdMt ⟨X.K, I.G, I.fl, I.X, I.ex⟩ g)) (ho : PE X o (rdE ⟨X.K, I.G, I.fl, I.X, I.ex⟩ w d_o))
    (hbase : attributeBase o name X.env (eval o X.env) = eval o X.env := by rfl) (hline : (apos.endLine == cpos.line) = true := by rfl) : PE X (.Call (.Attribute o name apos) [] [] cpos) (rdE ⟨X.K, I.G, I.fl, I.X, I.ex⟩ w (dBM T g d_o dNil)) :=
  PE_imp (pe_bm0 pa slot hty hm ho hbase hline) fun σ H Q q => by
    obtain ⟨e, S, M, s, sl, p⟩ := q
    refine ⟨e, S, M, s, sl, (EndR.bind (rel1 := RepW ⟨X.K, I.G, I.fl, I.X, I.ex⟩) p).imp fun v1 H1 ⟨x, S1, M1, l1, s1, r1, p1⟩ => ?_⟩
    split at p1
    · rename_i hx
      have p1 : EndR ⟨X.K, I.G, I.fl, I.X, I.ex⟩ S1 M1 H1 (RepW ⟨X.K, I.G, I.fl, I.X, I.ex⟩) Q (fun cls dd H' => w cls dd σ H') ((g x [] S1).ne) := p1
      exact ⟨tyS_at s1 r1 hx, x, [], S1, M1, s1, r1, .nil, p1.ne⟩
    · exact p1.elim
theorem two_of {M : List Addr} {H : Hp} {x : W} {vs : List V} (r : RepWs I M H [x] vs) : ∃ v, vs = [v] ∧ RepW I M H x v := by
  cases r with
  | cons r t => cases t; exact ⟨_, rfl, r⟩
def gSIndex : W → List W → Sto → R W
  | .d (.str a), [.d (.str b)], S => match Builtin.Str.occurrences a b 0 a.length 1 with
    | i :: _ => .ok (.d (.int (i : Nat))) S
    | [] => .bad
  | _, _, _ => .bad
theorem m_sindex : MtR X "str.index" (rdMt ⟨X.K, I.G, I.fl, I.X, I.ex⟩ gSIndex) := by
  intro pins s σ H x xs v us Q In rx rs ⟨u, ws, S, M, sim, ru, rw', p⟩
  unfold gSIndex at p
  split at p
  · split at p
    · rename_i i rest hi
      obtain ⟨v1, rfl, r1⟩ := two_of rw'
      cases ru
      cases r1
      exact mt_sindex pins s σ H _ _ v us Q In rx rs ⟨_, _, i, rest, rfl, rfl, hi, p.here sim (.int _)⟩
    · exact p.elim
  · exact p.elim
def gSFind : W → List W → Sto → R W
  | .d (.str a), [.d (.str b)], S => .ok (.d (.int (Txt.find a b))) S
  | _, _, _ => .bad
theorem m_sfind : MtR X "str.find" (rdMt ⟨X.K, I.G, I.fl, I.X, I.ex⟩ gSFind) := by
  intro pins s σ H x xs v us Q In rx rs ⟨u, ws, S, M, sim, ru, rw', p⟩
  unfold gSFind at p
  split at p
  · obtain ⟨v1, rfl, r1⟩ := two_of rw'
    cases ru
    cases r1
    exact mt_find pins s σ H _ _ v us Q In rx rs ⟨_, _, rfl, rfl, p.here sim (.int _)⟩
  · exact p.elim
def strsL : List W → Option (List Str)
  | [] => some []
  | .d (.str x) :: r => (strsL r).map (x :: ·)
  | _ => none
theorem strsL_map : ∀ {ns : List Str}, strsL ((ns.map D.str).map W.d) = some ns
  | [] => rfl
  | n :: ns => by
    rw [List.map_cons, List.map_cons, strsL, strsL_map]
    rfl
theorem strsL_rep {M : List Addr} {H : Hp} : ∀ {ws : List W} {vs : List V} {ns : List Str}, RepWs I M H ws vs → strsL ws = some ns → vs = ns.map V.str
  | [], _, _, .nil, e => by cases e; rfl
  | .d (.str i) :: ws, _, ns, .cons r t, e => by
    rw [strsL] at e
    cases q : strsL ws with
    | none => rw [q] at e; cases e
    | some ms =>
      rw [q] at e
      cases e
      cases r
      rw [strsL_rep t q]
      rfl
def gSJoin : W → List W → Sto → R W
  | .d (.str a), [x], S => match (seqOf x S).bind strsL with
    | some ys => if (ys.map (·.length)).sum + ys.length * a.length ≤ 16777216 then .ok (.d (.str (Txt.join a ys))) S else .bad
    | none => .bad
  | _, _, _ => .bad
theorem m_sjoin : MtR X "str.join" (rdMt ⟨X.K, I.G, I.fl, I.X, I.ex⟩ gSJoin) := by
  intro pins s σ H x xs v us Q In rx rs ⟨u, ws, S, M, sim, ru, rw', p⟩
  unfold gSJoin at p
  split at p
  · split at p
    · rename_i ys hys
      split at p
      · rename_i hz
        obtain ⟨v1, rfl, r1⟩ := two_of rw'
        cases ru
        cases q : seqOf _ S with
        | none => rw [q] at hys; cases hys
        | some zs =>
          rw [q] at hys
          obtain ⟨a, vs, rfl, h, t⟩ := seqOf_at sim r1 q
          rw [strsL_rep (I := ⟨X.K, I.G, I.fl, I.X, I.ex⟩) t hys] at h
          exact mt_join pins s σ H _ _ v us Q In rx rs ⟨_, a, ys, rfl, rfl, h, hz, p.here sim (.str _)⟩
      · exact p.elim
    · exact p.elim
  · exact p.elim
/-- the cell at i gets other items -/
def putL (i : Nat) (ws : List W) (S : Sto) : Option Sto := if (∀ w ∈ ws, w.lowB i = true) then some (S.set i (.lst ws)) else none
theorem putL_at {S S' : Sto} {M : List Addr} {H : Hp} {i : Nat} {ws ws0 : List W} {vs : List V} {a : Addr} (s : Sim I S M H) (hc : S[i]? = some (.lst ws0)) (ea : M[i]? = some a) (r : RepWs I M (mask S M H) ws vs) (e : putL i ws S = some S') :
    Sim I S' M (upd H a (.lst vs)) ∧ Le S M H S' M (upd H a (.lst vs)) := by
  unfold putL at e
  split at e
  · rename_i h
    cases e
    exact s.write hc ea (by intro z; cases z) (by intro z; cases z) (fun u m => W.lowB_of (h u m)) ⟨_, rfl, r⟩
  · cases e
/-- the items of an own list -/
def lstW : W → Sto → Option (List W)
  | .d (.lst xs), _ => some (xs.map W.d)
  | .c i, S => match S[i]? with
    | some (.lst ws) => some ws
    | _ => none
  | _, _ => none
theorem lstW_at {S : Sto} {M : List Addr} {H : Hp} {x : W} {v : V} {ws : List W} (sim : Sim I S M H) (r : RepW I M (mask S M H) x v) (e : lstW x S = some ws) : ∃ a vs, v = .ref a ∧ H a = some (.lst vs) ∧ RepWs I M (mask S M H) ws vs := by
  unfold lstW at e
  split at e
  · cases e
    cases r with
    | lst h q => exact ⟨_, _, rfl, mask_ex _ _ h, reps_map q⟩
  · split at e
    · rename_i hc
      cases e
      obtain ⟨a, ea, rfl⟩ := r
      obtain ⟨vs, ho, q⟩ := sim.cell _ _ a hc ea
      exact ⟨a, vs, rfl, ho, q⟩
    · cases e
  · cases e
def ofP (o : Option Sto) : R W := match o with
  | some S' => .ok (.d .non) S'
  | none => .bad
def gExtend : W → List W → Sto → R W
  | .c i, [y], S => match S[i]?, lstW y S with
    | some (.lst ws), some zs => if ws.length + zs.length ≤ sizeLine then ofP (putL i (ws ++ zs) S) else .bad
    | _, _ => .bad
  | _, _, _ => .bad
theorem m_extend : MtR X "list.extend" (rdMt ⟨X.K, I.G, I.fl, I.X, I.ex⟩ gExtend) := by
  intro pins s σ H x xs v us Q In rx rs ⟨u, ws, S, M, sim, ru, rw', p⟩
  unfold gExtend at p
  split at p
  · split at p
    · rename_i ws zs hc hz
      split at p
      · rename_i hl
        unfold ofP at p
        split at p
        · rename_i S' hp
          obtain ⟨v1, rfl, r1⟩ := two_of rw'
          obtain ⟨a, ea, rfl⟩ := ru
          obtain ⟨vs, ho, q⟩ := sim.cell _ _ a hc ea
          obtain ⟨b, us, rfl, hb, q2⟩ := lstW_at sim r1 hz
          obtain ⟨s', l'⟩ := putL_at sim hc ea (RepWs.app q q2) hp
          exact mt_extend pins s σ H _ _ v _ Q In rx rs ⟨a, b, vs, us, rfl, rfl, ho, hb, by rw [← Paired.length q, ← Paired.length q2]; exact hl, p .non _ M l' s' .non⟩
        · exact p.elim
      · exact p.elim
    · exact p.elim
  · exact p.elim
def gPop : W → List W → Sto → R W
  | .c i, [], S => match S[i]? with
    | some (.lst ws) => match ws[ws.length - 1]?, putL i ws.dropLast S with
      | some y, some S' => .ok y S'
      | _, _ => .bad
    | _ => .bad
  | .c i, [.d (.int j)], S => match S[i]? with
    | some (.lst ws) => if -(2 ^ 63) ≤ j ∧ j < 2 ^ 63 then (match seqIndex? j ws.length with
      | some m => match ws[m]?, putL i (ws.eraseIdx m) S with
        | some y, some S' => .ok y S'
        | _, _ => .bad
      | none => .bad) else .bad
    | _ => .bad
  | _, _, _ => .bad
theorem dropLast_paired {α β : Type} {R : α → β → Prop} {xs : List α} {ys : List β} (h : Paired R xs ys) : Paired R xs.dropLast ys.dropLast := by
  induction h with
  | nil => exact .nil
  | cons r t ih =>
    cases t with
    | nil => exact .nil
    | cons r2 t2 => exact .cons r ih
theorem erase_paired {α β : Type} {R : α → β → Prop} {xs : List α} {ys : List β} (h : Paired R xs ys) : ∀ n, Paired R (xs.eraseIdx n) (ys.eraseIdx n) := by
  induction h with
  | nil => intro n; exact .nil
  | cons r t ih =>
    intro n
    cases n with
    | zero => exact t
    | succ n => exact .cons r (ih n)
theorem m_pop : MtR X "list.pop" (rdMt ⟨X.K, I.G, I.fl, I.X, I.ex⟩ gPop) := by
  intro pins s σ H x xs v us Q In rx rs ⟨u, ws, S, M, sim, ru, rw', p⟩
  unfold gPop at p
  split at p
  · split at p
    · rename_i ws hc
      split at p
      · rename_i y S' hy hp
        cases rw'
        obtain ⟨a, ea, rfl⟩ := ru
        obtain ⟨vs, ho, q⟩ := sim.cell _ _ a hc ea
        obtain ⟨vy, hv, ry⟩ := paired_get q hy
        obtain ⟨s', l'⟩ := putL_at sim hc ea (dropLast_paired q) hp
        exact mt_pop pins s σ H _ _ v _ Q In rx rs ⟨a, vs, vy, rfl, rfl, ho, by rw [← Paired.length q]; exact hv, p _ _ M l' s' (ry.mono l')⟩
      · exact p.elim
    · exact p.elim
  · split at p
    · rename_i ws hc
      split at p
      · rename_i hj
        split at p
        · rename_i m hm
          split at p
          · rename_i y S' hy hp
            obtain ⟨v1, rfl, r1⟩ := two_of rw'
            cases r1
            obtain ⟨a, ea, rfl⟩ := ru
            obtain ⟨vs, ho, q⟩ := sim.cell _ _ a hc ea
            obtain ⟨vy, hv, ry⟩ := paired_get q hy
            obtain ⟨s', l'⟩ := putL_at sim hc ea (erase_paired q m) hp
            exact mt_popAt pins s σ H _ _ v _ Q In rx rs ⟨a, vs, _, m, vy, rfl, rfl, ho, hj.1, hj.2, by rw [← Paired.length q]; exact hm, hv, p _ _ M l' s' (ry.mono l')⟩
          · exact p.elim
        · exact p.elim
      · exact p.elim
    · exact p.elim
  · exact p.elim
def gInsert : W → List W → Sto → R W
  | .c i, [.d (.int j), y], S => match S[i]? with
    | some (.lst ws) => if ws.length < sizeLine ∧ 0 ≤ j ∧ j < 2 ^ 63 then ofP (putL i (ws.take j.toNat ++ [y] ++ ws.drop j.toNat) S) else .bad
    | _ => .bad
  | _, _, _ => .bad
theorem take_paired {α β : Type} {R : α → β → Prop} {xs : List α} {ys : List β} (h : Paired R xs ys) : ∀ n, Paired R (xs.take n) (ys.take n) ∧ Paired R (xs.drop n) (ys.drop n) := by
  induction h with
  | nil => intro n; rw [List.take_nil, List.take_nil, List.drop_nil, List.drop_nil]; exact ⟨.nil, .nil⟩
  | cons r t ih =>
    intro n
    cases n with
    | zero => exact ⟨.nil, .cons r t⟩
    | succ n => exact ⟨.cons r (ih n).1, (ih n).2⟩
theorem m_insert : MtR X "list.insert" (rdMt ⟨X.K, I.G, I.fl, I.X, I.ex⟩ gInsert) := by
  intro pins s σ H x xs v us Q In rx rs ⟨u, ws, S, M, sim, ru, rw', p⟩
  unfold gInsert at p
  split at p
  · split at p
    · rename_i ws hc
      split at p
      · rename_i hj
        unfold ofP at p
        split at p
        · rename_i S' hp
          cases rw' with
          | cons r1 rr =>
            obtain ⟨v2, rfl, r2⟩ := two_of rr
            cases r1
            obtain ⟨a, ea, rfl⟩ := ru
            obtain ⟨vs, ho, q⟩ := sim.cell _ _ a hc ea
            obtain ⟨s', l'⟩ := putL_at sim hc ea (RepWs.app (RepWs.app (take_paired q _).1 (.cons r2 .nil)) (take_paired q _).2) hp
            exact mt_insert pins s σ H _ _ v _ Q In rx rs ⟨a, vs, _, v2, rfl, rfl, ho, by rw [← Paired.length q]; exact hj.1, hj.2.1, hj.2.2, p .non _ M l' s' .non⟩
        · exact p.elim
      · exact p.elim
    · exact p.elim
  · exact p.elim
/-! bool(x) -/
def gBool : List W → Sto → R W
  | [.d (.int i)], S => .ok (.d (.bl (i != 0))) S
  | [.d (.bl b)], S => .ok (.d (.bl b)) S
  | _, _ => .bad
theorem c_bool : CallR X (.type "bool") (rdCall ⟨X.K, I.G, I.fl, I.X, I.ex⟩ gBool) := by
  intro pins s σ H vs us Q In r hh
  obtain ⟨ws, S, M, sim, rw', p⟩ := hh
  unfold gBool at p
  split at p
  · obtain ⟨v, rfl, rv⟩ := rw'.one
    cases rv
    exact call_bool1 pins s σ H _ us Q In r (.inl ⟨_, rfl, p.here sim (.bl _)⟩)
  · obtain ⟨v, rfl, rv⟩ := rw'.one
    cases rv
    exact call_bool1 pins s σ H _ us Q In r (.inr ⟨_, rfl, p.here sim (.bl _)⟩)
  · exact p.elim
/-! own == -/
def okT (c : Nat) : Option Ty → Bool
  | some (.cls c2) => c2 == c
  | some _ => true
  | none => false
def eqO (F : FnTab) (c f : Nat) (g : W → W → Sto → R W) : W → W → Sto → R W
  | .d (.obj c1 xs), y, S => if c1 = c ∧ okT c (tyOf y S) = true then F f [.d (.obj c1 xs), y] S else .bad
  | x, y, S => g x y S
theorem tyX_looks {X : Cx} {pins : List (Addr × Obj)} {σ : L2.St} {H : Hp} {s : Shared} {x : V} {u t : Value} (In : Inv X pins σ H s) (ty : TyX X.K H x t) (rx : RelV x u) : PySem.W.Looks (model X.prog X.w) s.heap (typeOf u) t := by
  obtain ⟨P, Z, p, _⟩ := kit_of In rx ty
  exact Z.ty _ _ In.kIn p
theorem mro_own (T : String) (C : Addr) (h : T ∈ ["NoneType", "bool", "int", "str", "tuple", "list", "dict"]) (K : PySem.W.Frag) : PySem.W.notFirst K C (.type T) = true := by
  have e : PySem.W.subIn K (.type T) (.ref C) = some false := by
    simp only [List.mem_cons, List.not_mem_nil, or_false] at h
    rcases h with rfl | rfl | rfl | rfl | rfl | rfl | rfl <;> rfl
  unfold PySem.W.notFirst
  rw [e]
  rfl
theorem o_ownEq {J : Jn} {X : Cx} {w : WX} {F Fi : FnTab} {k : Nat} (t : Cok J X w F Fi k) {g : W → W → Sto → R W} {f c : Nat} (h : J.sg.mt f = some (c, ("__eq__" : Str), 2)) (hg : OpR X (compareOp .Eq) (rdOp (J.inf X.K) g)) : OpR X (compareOp .Eq) (rdOp (J.inf X.K) (eqO F c f g)) := by
  intro pins s σ H v u ov ou Q In rv ru hh
  obtain ⟨x, y, S, M, sim, rx, ry, p⟩ := hh
  unfold eqO at p
  split at p
  · split at p
    · rename_i hc
      obtain ⟨rfl, hok⟩ := hc
      obtain ⟨C, fa, fd, ps, h1, h2, h3, h4⟩ := t.meth f _ _ 2 h
      have rx0 := rx
      cases rx with
      | obj g1 e1 l1 q1 =>
      have eC := h1.symm.trans g1
      cases eC
      cases rv
      obtain ⟨od, J1⟩ := obj_look (I := J.inf X.K) In (mask_ex _ _ e1)
      obtain ⟨mm, hF⟩ := In.fr
      have run : wpAny (model X.prog X.w) X.A (call (.ref fa) [.ref _, ou]) (PySem.W.CmpBack (EP X pins σ Q)) X.xe s :=
        wpAny_mono (run_m (m := "__eq__") (c := 0) t h3 h4 In (.cons rel_ref (.cons ru .nil)) rfl sim (.cons rx0 (.cons ry .nil)) p) (fun _ _ z => cmpBack_of z) fun _ _ z => z
      show wpAny _ _ (richCompare .Eq _ ou) _ _ _
      unfold okT at hok
      split at hok
      · rename_i c2 hy
        have hok := beq_iff_eq.mp hok
        subst hok
        rcases ty_at t sim ry hy with ⟨hn, ty⟩ | ⟨c3, C3, e3, g3, ty⟩
        · exact absurd rfl hn
        · cases e3
          have eC := h1.symm.trans g3
          cases eC
          exact PySem.W.cmp_K (op := .Eq) (tb := .ref C) t.room.units0 hF In.ok.mod.kin J1 (tyX_looks In ty ru) (by unfold PySem.W.notFirst; rw [Bool.or_eq_true]; exact .inl (beq_self_eq_true _)) h2.at_ h2.fn run
      · rename_i y0 hne hy
        rcases ty_at t sim ry hy with ⟨hn, ty⟩ | ⟨c3, C3, e3, g3, ty⟩
        · exact PySem.W.cmp_K (op := .Eq) (tb := .type _) t.room.units0 hF In.ok.mod.kin J1 (tyX_looks In ty ru) (mro_own _ _ (nm_mem _ hn) _) h2.at_ h2.fn run
        · exact absurd e3 (hne c3)
      · cases hok
    · exact p.elim
  · exact hg pins s σ H v u ov ou Q In rv ru ⟨x, y, S, M, sim, rx, ry, p⟩
end
end Py
/-! ### comprehensions of two clauses -/
namespace Py
open PySem PySem.Spec PyProof.Rows L2
open Classical in
noncomputable def compL2 (g : GT) (ta : DT) (d1 : DI) (g1 : GT) (t1 : DT) (el : DE) (k1 : List Nat) (gd : Sto → Prop) (env : Env) : List W → Sto → R (List W)
  | [], S => if gd S then .ok [] S else .bad
  | x :: xs, S => if gd S then (match g x env with
    | none => .bad
    | some e1 => (ta e1 S).ne.bind fun c S1 => if c = true then ((d1 e1 S1).ne.bind fun p S2 => (compL g1 t1 el p.2 (uns k1 e1) p.1 S2).bind fun ys S3 => (compL2 g ta d1 g1 t1 el k1 gd env xs S3).bind fun zs S4 => .ok (ys ++ zs) S4) else compL2 g ta d1 g1 t1 el k1 gd env xs S1) else .bad
noncomputable def dComp2 (own : List Nat) (g : GT) (i : DI) (t : DT) (d1 : DI) (g1 : GT) (t1 : DT) (el : DE) (k1 : List Nat) : DE := fun e S => (i e S).bind fun p S1 => (compL2 g t d1 g1 t1 el k1 p.2 (uns own e) p.1 S1).bind fun ws S2 => if ws.length ≤ 16777216 then (match plainL ws with
  | some xs => .ok (.d (.lst xs)) S2
  | none => .bad) else .bad
section
variable {J : Jn} {X : Cx} {I : Inf} {w : WX} {F Fi : FnTab} {k : Nat} {a b c e o tg iter tg1 iter1 elt : Expr} {el : DE} {ta t1 : DT} {pos p p2 : Pos} {di d1 : DI} {g g1 : GT} {vs vs1 : List Nat} {scope : Scope} {own : List (Str × Nat)} {ifs ifs1 : List Expr}
/-- an iterator made while the list is aside -/
theorem PI_aside {t : TI} (h : PI X tg iter t) : PI X tg iter (fun σ H R => ∃ (D : Addr) (xs : List V), H D = some (.lst xs) ∧ t σ (era H D) fun J1 H' => H' D = none → R J1 (upd H' D (.lst xs))) := by
  refine ⟨fun pins s σ H R In ⟨D, xs, hD, q⟩ => ?_⟩
  obtain ⟨h1, h2, its, n, r, z, I1⟩ := inv_aside In hD
  refine wpAny_mono (h.run _ s σ _ _ I1 q) (fun v s1 h3 => wpAny_mono h3 (fun itv s2 h4 => ?_) fun _ _ x => x) fun _ _ x => x
  obtain ⟨it, fp, tn, J1, H', e, I2, T, t0, ff, q2⟩ := h4
  obtain ⟨n2, I3⟩ := inv_back h1 h2 r z I2
  refine ⟨it, fp, tn, J1, _, e, I3, T, t0, fun b hb => ?_, q2 n2⟩
  obtain ⟨f0, f1, f2, f3, f4, f5⟩ := ff b hb
  refine ⟨?_, f1, f2, f3, f4, fun p hp => f5 p ?_⟩
  · have : D ≠ b := f5 (D, { cls := .type "list", data := .seq its.toArray n }) (by simp)
    rw [upd_ne (Ne.symm this)]
    exact f0
  · rcases List.mem_append.mp hp with h | h
    · exact List.mem_append_left _ h
    · exact List.mem_append_right _ (List.mem_append_left _ h)
theorem bind_assoc' {α β γ : Type} {r : R α} {f : α → Sto → R β} {h : β → Sto → R γ} : (r.bind f).bind h = r.bind fun a S => (f a S).bind h := by cases r <;> rfl
/-- the walk of the inner clause -/
theorem inner_walk {J1 : It} {ys : List W} {gd : Sto → Prop} {S0 : Sto} {M0 : List Addr} {H0 : Hp} (wk : WalkI I J1 ys gd S0 M0 H0) (s0 : Sim I S0 M0 H0) {σ : L2.St} {env : Env} (sl : Slots I M0 (mask S0 M0 H0) env σ) {D : Addr} (nD : H0 D = none) {acc : List V} {accW : List W} (ra : RepWs I M0 (mask S0 M0 H0) accW acc)
    {cont : List W → Sto → R W} (hcl : ∀ ws S, cont ws S ≠ .bad → ws.length ≤ 16777216) {Q : VK} {E : XK} {Nx : Hp → Prop}
    (hnx : ∀ (S' : Sto) (M' : List Addr) (Hs : Hp) (accW' : List W) (acc' : List V), Le S0 M0 H0 S' M' Hs → Sim I S' M' Hs → Hs D = none → RepWs I M' (mask S' M' Hs) accW' acc' → EndR I S' M' Hs (RepW I) Q E (cont accW' S') → Nx (upd Hs D (.lst acc')))
    (p : EndR I S0 M0 H0 (RepW I) Q E ((compL g1 t1 el gd (uns vs1 env) ys S0).bind fun zs S3 => cont (accW ++ zs) S3)) :
    ∃ W1 : Nat → Nat → Hp → Prop, (∃ m, W1 0 m (upd H0 D (.lst acc))) ∧ ∀ j k H, W1 j k H →
      (J1.stop j H ∧ Nx H) ∨ (J1.go j H ∧ ∃ Nx1 : Hp → Prop, (∀ H', Nx1 H' → ∃ k', k' < k ∧ W1 (j + 1) k' H') ∧ ∀ x H', J1.yld j H x H' → aG (rdG I g1 vs1) x (wipe σ vs1) H' fun σ3 H5 => wipe σ3 vs1 = wipe σ vs1 ∧ aT (rdT I w0 t1) σ3 H5 fun b H6 =>
        if b = true then aE (rdE I w0 el) σ3 H6 fun y H7 => ∃ acc, H7 D = some (.lst acc) ∧ acc.length < sizeLine ∧ Nx1 (upd H7 D (.lst (acc ++ [y]))) else Nx1 H6) := by
  refine ⟨fun i m H' => ∃ (S' : Sto) (M' : List Addr) (Hs : Hp) (accW : List W) (acc : List V), H' = upd Hs D (.lst acc) ∧ Hs D = none ∧ m = ys.length - i ∧ i ≤ ys.length ∧ Le S0 M0 H0 S' M' Hs ∧ Sim I S' M' Hs ∧ RepWs I M' (mask S' M' Hs) accW acc ∧
      EndR I S' M' Hs (RepW I) Q E ((compL g1 t1 el gd (uns vs1 env) (ys.drop i) S').bind fun zs S3 => cont (accW ++ zs) S3),
    ⟨_, S0, M0, H0, accW, acc, rfl, nD, rfl, Nat.zero_le _, Le.refl, s0, ra, p⟩, fun i m H' ⟨S', M', Hs, accW, acc, eH, nDs, hm, hi, l', s', ra, p'⟩ => ?_⟩
  subst eH
  have exs : Ex Hs (upd Hs D (.lst acc)) := fun a o e => by rw [upd_ne (ne_of_none e nDs)]; exact e
  rcases Nat.lt_or_ge i ys.length with hlt | hge
  · right
    rw [List.drop_eq_getElem_cons hlt] at p'
    have hbad : compL g1 t1 el gd (uns vs1 env) (ys[i] :: ys.drop (i + 1)) S' ≠ .bad := fun z => by rw [z] at p'; exact p'
    have e0 := compL.eq_def g1 t1 el gd (uns vs1 env) (ys[i] :: ys.drop (i + 1)) S'
    dsimp only at e0
    have hgd : gd S' := by
      by_cases z : gd S'
      · exact z
      · rw [if_neg z] at e0
        exact absurd e0 hbad
    rw [if_pos hgd] at e0
    rw [e0] at p'
    clear e0 hbad
    obtain ⟨hgo, hy⟩ := wk.item S' M' Hs _ l' s' exs hgd i _ (List.getElem?_eq_getElem hlt)
    refine ⟨hgo, fun H2 => ∃ (S' : Sto) (M' : List Addr) (Hs : Hp) (accW : List W) (acc : List V), H2 = upd Hs D (.lst acc) ∧ Hs D = none ∧ Le S0 M0 H0 S' M' Hs ∧ Sim I S' M' Hs ∧ RepWs I M' (mask S' M' Hs) accW acc ∧
      EndR I S' M' Hs (RepW I) Q E ((compL g1 t1 el gd (uns vs1 env) (ys.drop (i + 1)) S').bind fun zs S3 => cont (accW ++ zs) S3),
      fun H2 ⟨S', M', Hs, accW, acc, a1, a2, a3, a4, a5, a6⟩ => ⟨_, by omega, S', M', Hs, accW, acc, a1, a2, rfl, hlt, a3, a4, a5, a6⟩, fun v H3 hyl => ?_⟩
    obtain ⟨Hs3, e3, nD3, s3, l3, r3⟩ : ∃ Hs3, H3 = upd Hs3 D (.lst acc) ∧ Hs3 D = none ∧ Sim I S' M' Hs3 ∧ Le S' M' Hs S' M' Hs3 ∧ RepW I M' (mask S' M' Hs3) ys[i] v := by
      rcases hy v H3 hyl with ⟨rfl, r3⟩ | ⟨T, us, zs, nT, rfl, rfl, ex, rs⟩
      · exact ⟨Hs, rfl, nDs, s', Le.refl, r3⟩
      · have TD : T ≠ D := fun z => by rw [z, upd_same] at nT; cases nT
        have nT' : Hs T = none := by rw [upd_ne TD] at nT; exact nT
        obtain ⟨a1, a2⟩ := s'.new (o := .tup us) nT'
        refine ⟨upd Hs T (.tup us), ?_, by rw [upd_ne (Ne.symm TD)]; exact nDs, a1, a2, ?_⟩
        · funext a
          by_cases z1 : a = T
          · rw [z1, upd_same, upd_ne TD, upd_same]
          · rw [upd_ne z1]
            by_cases z2 : a = D
            · rw [z2, upd_same, upd_same]
            · rw [upd_ne z2, upd_ne z2, upd_ne z1]
        · rw [ex]
          exact .tup (.inl (.inl (mask_new s' nT'))) (rs.mono a2.ex)
    subst e3
    refine ⟨D, acc, upd_same, ?_⟩
    rw [era_upd nD3]
    have slb : Slots I M' (mask S' M' Hs3) (uns vs1 env) (wipe σ vs1) := uns_wipe ((sl.mono l').mono l3) vs1
    split at p'
    · exact p'.elim
    rename_i e1 he1
    refine ⟨_, _, S', M', s3, slb, r3, e1, he1, fun σ2 sl2 hw nD4 => ⟨by rw [hw vs1 fun _ h => h]; exact wipe_wipe _ _, D, acc, upd_same, ?_⟩⟩
    rw [era_upd nD4]
    have p' := EndR.up p' l3
    refine ⟨e1, S', M', s3, sl2, ?_⟩
    generalize t1 e1 S' = rt at p' ⊢
    cases rt with
    | bad => exact p'.elim
    | exc c x S2 => exact p'.elim
    | ok cc S2 =>
      intro b H4 M4 l4 s4 eb nD5
      subst eb
      have p' : EndR I S' M' Hs3 (RepW I) Q E ((if cc = true then ((el e1 S2).ne.bind fun y S2 => (compL g1 t1 el gd (uns vs1 env) (ys.drop (i + 1)) S2).bind fun zs S3 => .ok (y :: zs) S3) else compL g1 t1 el gd (uns vs1 env) (ys.drop (i + 1)) S2).bind fun zs S3 => cont (accW ++ zs) S3) := p'
      have p' := EndR.up p' l4
      have l5 := (l'.trans l3).trans l4
      cases cc with
      | false => exact ⟨S2, M4, H4, accW, acc, rfl, nD5, l5, s4, (ra.mono l3).mono l4, p'⟩
      | true =>
        refine ⟨D, acc, upd_same, ?_⟩
        rw [era_upd nD5]
        refine ⟨e1, S2, M4, s4, sl2.mono l4, ?_⟩
        have p' : EndR I S2 M4 H4 (RepW I) Q E (((el e1 S2).ne.bind fun y S2 => (compL g1 t1 el gd (uns vs1 env) (ys.drop (i + 1)) S2).bind fun zs S3 => .ok (y :: zs) S3).bind fun zs S3 => cont (accW ++ zs) S3) := p'
        generalize el e1 S2 = re at p' ⊢
        cases re with
        | bad => exact p'.elim
        | exc c x S3 => exact p'.elim
        | ok y S3 =>
          intro vy H6 M6 l6 s6 ry nD6
          have p' : EndR I S2 M4 H4 (RepW I) Q E (((compL g1 t1 el gd (uns vs1 env) (ys.drop (i + 1)) S3).bind fun zs S3 => .ok (y :: zs) S3).bind fun zs S3 => cont (accW ++ zs) S3) := p'
          have p' := EndR.up p' l6
          have ra6 := ((ra.mono l3).mono l4).mono l6
          rw [bind_assoc'] at p'
          have p' : EndR I S3 M6 H6 (RepW I) Q E ((compL g1 t1 el gd (uns vs1 env) (ys.drop (i + 1)) S3).bind fun zs S3 => cont (accW ++ y :: zs) S3) := p'
          have hb : ∃ zs S4, compL g1 t1 el gd (uns vs1 env) (ys.drop (i + 1)) S3 = .ok zs S4 ∧ cont (accW ++ y :: zs) S4 ≠ .bad := by
            rcases compL_noexc (g := g1) (ta := t1) (el := el) gd (uns vs1 env) (ys.drop (i + 1)) S3 with ⟨zs, S4, e⟩ | e
            · rw [e] at p'
              exact ⟨zs, S4, e, fun z => by
                have p' : EndR I S3 M6 H6 (RepW I) Q E (cont (accW ++ y :: zs) S4) := p'
                rw [z] at p'
                exact p'⟩
            · rw [e] at p'
              exact p'.elim
          obtain ⟨zs, S4, ec, hnb⟩ := hb
          have hlen := hcl _ _ hnb
          refine ⟨acc, upd_same, ?_, S3, M6, H6, accW ++ [y], acc ++ [vy], upd_upd, nD6, l5.trans l6, s6, RepWs.app ra6 (.cons ry .nil), ?_⟩
          · rw [sizeLine_eq, ← Paired.length ra6]
            simp at hlen
            omega
          · rw [ec] at p' ⊢
            show EndR I S3 M6 H6 (RepW I) Q E (cont (accW ++ [y] ++ zs) S4)
            rw [List.append_assoc]
            exact p'
  · left
    have hi' : i = ys.length := by omega
    subst hi'
    rw [List.drop_length] at p'
    unfold compL at p'
    split at p'
    · rename_i hgd
      have p' : EndR I S' M' Hs (RepW I) Q E (cont (accW ++ []) S') := p'
      rw [List.append_nil] at p'
      exact ⟨wk.stop S' M' Hs _ l' s' exs hgd, hnx S' M' Hs accW acc l' s' nDs ra p'⟩
    · exact p'.elim
theorem compL2_noexc (gd : Sto → Prop) (env : Env) : ∀ (xs : List W) (S : Sto), (∃ ws S', compL2 g ta d1 g1 t1 el vs1 gd env xs S = .ok ws S') ∨ compL2 g ta d1 g1 t1 el vs1 gd env xs S = .bad
  | [], S => by
    unfold compL2
    split
    · exact .inl ⟨_, _, rfl⟩
    · exact .inr rfl
  | x :: xs, S => by
    unfold compL2
    split
    · split
      · exact .inr rfl
      · rename_i e1 _
        generalize ta e1 S = r1
        cases r1 with
        | bad => exact .inr rfl
        | exc c x S1 => exact .inr rfl
        | ok c S1 =>
          show (∃ ws S', (if c = true then _ else _) = R.ok ws S') ∨ (if c = true then _ else _) = R.bad
          split
          · generalize d1 e1 S1 = r2
            cases r2 with
            | bad => exact .inr rfl
            | exc c x S1 => exact .inr rfl
            | ok q S2 =>
              show (∃ ws S', (compL g1 t1 el q.2 (uns vs1 e1) q.1 S2).bind _ = R.ok ws S') ∨ (compL g1 t1 el q.2 (uns vs1 e1) q.1 S2).bind _ = R.bad
              rcases compL_noexc (g := g1) (ta := t1) (el := el) q.2 (uns vs1 e1) q.1 S2 with ⟨ys, S3, e⟩ | e
              · rw [e]
                show (∃ ws S', (compL2 g ta d1 g1 t1 el vs1 gd env xs S3).bind _ = R.ok ws S') ∨ (compL2 g ta d1 g1 t1 el vs1 gd env xs S3).bind _ = R.bad
                rcases compL2_noexc gd env xs S3 with ⟨ws, S', e⟩ | e
                · rw [e]; exact .inl ⟨_, _, rfl⟩
                · rw [e]; exact .inr rfl
              · rw [e]; exact .inr rfl
          · exact compL2_noexc gd env xs S1
    · exact .inr rfl
abbrev aI (t : TI) : TI := fun σ H R => ∃ (D : Addr) (xs : List V), H D = some (.lst xs) ∧ t σ (era H D) fun J1 H' => H' D = none → R J1 (upd H' D (.lst xs))
theorem comp2_rd {own : List Nat} {fin : List W → Sto → R W} (c : CFin I fin) (hv : ∀ i ∈ vs, i ∈ own) {σ : L2.St} {H : Hp} {Q : VK}
    (q : rdE I w (fun e S => (di e S).bind fun p S1 => (compL2 g ta d1 g1 t1 el vs1 p.2 (uns own e) p.1 S1).bind fin) σ H Q) : tLc2 (rdI I w di) (aG (rdG I g vs)) (aT (rdT I w0 ta)) (aI (rdI I w0 d1)) (aG (rdG I g1 vs1)) (aT (rdT I w0 t1)) (aE (rdE I w0 el)) own vs1 σ H Q := by
  obtain ⟨env, S, M, s, sl, p⟩ := q
  refine ⟨env, S, M, s, sl, ?_⟩
  dsimp only at p
  generalize di env S = r at p ⊢
  cases r with
  | bad => exact p
  | exc c x S1 => exact p
  | ok qq S1 =>
    obtain ⟨xs, gd⟩ := qq
    intro J1 H1 M1 l1 s1 wk D nD
    have p : EndR I S1 M1 H1 (RepW I) Q (fun cls dd H' => w cls dd σ H') ((compL2 g ta d1 g1 t1 el vs1 gd (uns own env) xs S1).bind fin) := EndR.up (r := (compL2 g ta d1 g1 t1 el vs1 gd (uns own env) xs S1).bind fin) p l1
    have sl1 := sl.mono l1
    refine ⟨fun i m H' => ∃ (S' : Sto) (M' : List Addr) (Hs : Hp) (accW : List W) (acc : List V), H' = upd Hs D (.lst acc) ∧ Hs D = none ∧ m = xs.length - i ∧ i ≤ xs.length ∧ Le S1 M1 H1 S' M' Hs ∧ Sim I S' M' Hs ∧ RepWs I M' (mask S' M' Hs) accW acc ∧
      EndR I S' M' Hs (RepW I) Q (fun cls dd H' => w cls dd σ H') ((compL2 g ta d1 g1 t1 el vs1 gd (uns own env) (xs.drop i) S').bind fun ys S3 => fin (accW ++ ys) S3),
      ⟨_, S1, M1, H1, [], [], rfl, nD, rfl, Nat.zero_le _, Le.refl, s1, .nil, p⟩, fun i m H' ⟨S', M', Hs, accW, acc, eH, nDs, hm, hi, l', s', ra, p'⟩ => ?_⟩
    subst eH
    have exs : Ex Hs (upd Hs D (.lst acc)) := fun a o e => by rw [upd_ne (ne_of_none e nDs)]; exact e
    rcases Nat.lt_or_ge i xs.length with hlt | hge
    · right
      rw [List.drop_eq_getElem_cons hlt] at p'
      have hbad : compL2 g ta d1 g1 t1 el vs1 gd (uns own env) (xs[i] :: xs.drop (i + 1)) S' ≠ .bad := fun z => by rw [z] at p'; exact p'
      have e0 := compL2.eq_def g ta d1 g1 t1 el vs1 gd (uns own env) (xs[i] :: xs.drop (i + 1)) S'
      dsimp only at e0
      have hgd : gd S' := by
        by_cases z : gd S'
        · exact z
        · rw [if_neg z] at e0
          exact absurd e0 hbad
      rw [if_pos hgd] at e0
      rw [e0] at p'
      clear e0 hbad
      obtain ⟨hgo, hy⟩ := wk.item S' M' Hs _ l' s' exs hgd i _ (List.getElem?_eq_getElem hlt)
      refine ⟨hgo, fun H2 => ∃ (S' : Sto) (M' : List Addr) (Hs : Hp) (accW : List W) (acc : List V), H2 = upd Hs D (.lst acc) ∧ Hs D = none ∧ Le S1 M1 H1 S' M' Hs ∧ Sim I S' M' Hs ∧ RepWs I M' (mask S' M' Hs) accW acc ∧
        EndR I S' M' Hs (RepW I) Q (fun cls dd H' => w cls dd σ H') ((compL2 g ta d1 g1 t1 el vs1 gd (uns own env) (xs.drop (i + 1)) S').bind fun ys S3 => fin (accW ++ ys) S3),
        fun H2 ⟨S', M', Hs, accW, acc, a1, a2, a3, a4, a5, a6⟩ => ⟨_, by omega, S', M', Hs, accW, acc, a1, a2, rfl, hlt, a3, a4, a5, a6⟩, fun v H3 hyl => ?_⟩
      obtain ⟨Hs3, e3, nD3, s3, l3, r3⟩ : ∃ Hs3, H3 = upd Hs3 D (.lst acc) ∧ Hs3 D = none ∧ Sim I S' M' Hs3 ∧ Le S' M' Hs S' M' Hs3 ∧ RepW I M' (mask S' M' Hs3) xs[i] v := by
        rcases hy v H3 hyl with ⟨rfl, r3⟩ | ⟨T, us, ys, nT, rfl, rfl, ex, rs⟩
        · exact ⟨Hs, rfl, nDs, s', Le.refl, r3⟩
        · have TD : T ≠ D := fun z => by rw [z, upd_same] at nT; cases nT
          have nT' : Hs T = none := by rw [upd_ne TD] at nT; exact nT
          obtain ⟨a1, a2⟩ := s'.new (o := .tup us) nT'
          refine ⟨upd Hs T (.tup us), ?_, by rw [upd_ne (Ne.symm TD)]; exact nDs, a1, a2, ?_⟩
          · funext a
            by_cases z1 : a = T
            · rw [z1, upd_same, upd_ne TD, upd_same]
            · rw [upd_ne z1]
              by_cases z2 : a = D
              · rw [z2, upd_same, upd_same]
              · rw [upd_ne z2, upd_ne z2, upd_ne z1]
          · rw [ex]
            exact .tup (.inl (.inl (mask_new s' nT'))) (rs.mono a2.ex)
      subst e3
      refine ⟨D, acc, upd_same, ?_⟩
      rw [era_upd nD3]
      have slb : Slots I M' (mask S' M' Hs3) (uns own env) (wipe σ own) := uns_wipe ((sl1.mono l').mono l3) own
      split at p'
      · exact p'.elim
      rename_i e1 he1
      refine ⟨_, _, S', M', s3, slb, r3, e1, he1, fun σ2 sl2 hw nD4 => ⟨by rw [hw own hv]; exact wipe_wipe _ _, D, acc, upd_same, ?_⟩⟩
      rw [era_upd nD4]
      have p' := EndR.up p' l3
      refine ⟨e1, S', M', s3, sl2, ?_⟩
      generalize ta e1 S' = rt at p' ⊢
      cases rt with
      | bad => exact p'.elim
      | exc c x S2 => exact p'.elim
      | ok cc S2 =>
        intro b H4 M4 l4 s4 eb nD5
        subst eb
        have p' : EndR I S' M' Hs3 (RepW I) Q (fun cls dd H' => w cls dd σ H') ((if cc = true then ((d1 e1 S2).ne.bind fun p S2 => (compL g1 t1 el p.2 (uns vs1 e1) p.1 S2).bind fun ys S3 => (compL2 g ta d1 g1 t1 el vs1 gd (uns own env) (xs.drop (i + 1)) S3).bind fun zs S4 => .ok (ys ++ zs) S4) else compL2 g ta d1 g1 t1 el vs1 gd (uns own env) (xs.drop (i + 1)) S2).bind fun ys S3 => fin (accW ++ ys) S3) := p'
        have p' := EndR.up p' l4
        have l5 := (l'.trans l3).trans l4
        cases cc with
        | false => exact ⟨S2, M4, H4, accW, acc, rfl, nD5, l5, s4, (ra.mono l3).mono l4, p'⟩
        | true =>
          refine ⟨D, acc, upd_same, ?_⟩
          rw [era_upd nD5]
          refine ⟨e1, S2, M4, s4, sl2.mono l4, ?_⟩
          have p' : EndR I S2 M4 H4 (RepW I) Q (fun cls dd H' => w cls dd σ H') (((d1 e1 S2).ne.bind fun p S2 => (compL g1 t1 el p.2 (uns vs1 e1) p.1 S2).bind fun ys S3 => (compL2 g ta d1 g1 t1 el vs1 gd (uns own env) (xs.drop (i + 1)) S3).bind fun zs S4 => .ok (ys ++ zs) S4).bind fun ys S3 => fin (accW ++ ys) S3) := p'
          generalize d1 e1 S2 = re at p' ⊢
          cases re with
          | bad => exact p'.elim
          | exc c x S3 => exact p'.elim
          | ok qi S3 =>
            obtain ⟨ys, gd1⟩ := qi
            intro J2 H6 M6 l6 s6 wk2 nD6
            have p' : EndR I S2 M4 H4 (RepW I) Q (fun cls dd H' => w cls dd σ H') (((compL g1 t1 el gd1 (uns vs1 e1) ys S3).bind fun ys S3 => (compL2 g ta d1 g1 t1 el vs1 gd (uns own env) (xs.drop (i + 1)) S3).bind fun zs S4 => .ok (ys ++ zs) S4).bind fun ys S3 => fin (accW ++ ys) S3) := p'
            have p' := EndR.up p' l6
            rw [bind_assoc'] at p'
            have p' : EndR I S3 M6 H6 (RepW I) Q (fun cls dd H' => w cls dd σ H') ((compL g1 t1 el gd1 (uns vs1 e1) ys S3).bind fun ys S3 => (compL2 g ta d1 g1 t1 el vs1 gd (uns own env) (xs.drop (i + 1)) S3).bind fun zs S4 => fin (accW ++ ys ++ zs) S4) := by
              refine cast (congrArg _ (congrArg _ ?_)) p'
              funext ys S3
              rw [bind_assoc']
              refine congrArg _ ?_
              funext zs S4
              show fin (accW ++ (ys ++ zs)) S4 = _
              rw [List.append_assoc]
            exact inner_walk wk2 s6 ((sl2.mono l4).mono l6) nD6 (((ra.mono l3).mono l4).mono l6) (cont := fun ws S3 => (compL2 g ta d1 g1 t1 el vs1 gd (uns own env) (xs.drop (i + 1)) S3).bind fun zs S4 => fin (ws ++ zs) S4)
              (fun ws S h => by
                rcases compL2_noexc (g := g) (ta := ta) (d1 := d1) (g1 := g1) (t1 := t1) (el := el) (vs1 := vs1) gd (uns own env) (xs.drop (i + 1)) S with ⟨zs, S4, ez⟩ | ez
                · rw [ez] at h
                  have := c.len (ws := ws ++ zs) (S := S4) h
                  rw [List.length_append] at this
                  omega
                · rw [ez] at h
                  exact absurd rfl h)
              (fun S' M' Hs accW' acc' l7 s7 nD7 ra7 p7 => ⟨S', M', Hs, accW', acc', rfl, nD7, (l5.trans l6).trans l7, s7, ra7, p7⟩) p'
    · left
      have hi' : i = xs.length := by omega
      subst hi'
      rw [List.drop_length] at p'
      unfold compL2 at p'
      split at p'
      · rename_i hgd
        have p' : EndR I S' M' Hs (RepW I) Q (fun cls dd H' => w cls dd σ H') (fin (accW ++ []) S') := p'
        rw [List.append_nil] at p'
        exact ⟨wk.stop S' M' Hs _ l' s' exs hgd, c.end_ s' ra nDs p'⟩
      · exact p'.elim
theorem sx_comp2 (t : Cok J X w F Fi k) (hi : PI X tg iter (rdI I w di)) (hv : ∀ i ∈ vs, i ∈ own.map (·.2)) (hv1 : ∀ i ∈ vs1, i ∈ own.map (·.2)) (ok : BlkOk X.N X.env.scope scope own)
    (hg : ∀ (s : Shared) (H : Hp) (C : Addr) (cl : List (Str × Addr)) (fp : List Addr), PG (X.blk s H scope (compEnvC scope cl C X.env) fp) tg (rdG I g vs)) (ht : ∀ (s : Shared) (H : Hp) (C : Addr) (cl : List (Str × Addr)) (fp : List Addr), PTs (X.blk s H scope (compEnvC scope cl C X.env) fp) ifs (rdT I w0 ta))
    (hi1 : ∀ (s : Shared) (H : Hp) (C : Addr) (cl : List (Str × Addr)) (fp : List Addr), PI (X.blk s H scope (compEnvC scope cl C X.env) fp) tg1 iter1 (rdI I w0 d1))
    (hg1 : ∀ (s : Shared) (H : Hp) (C : Addr) (cl : List (Str × Addr)) (fp : List Addr), PG (X.blk s H scope (compEnvC scope cl C X.env) fp) tg1 (rdG I g1 vs1)) (ht1 : ∀ (s : Shared) (H : Hp) (C : Addr) (cl : List (Str × Addr)) (fp : List Addr), PTs (X.blk s H scope (compEnvC scope cl C X.env) fp) ifs1 (rdT I w0 t1))
    (he : ∀ (s : Shared) (H : Hp) (C : Addr) (cl : List (Str × Addr)) (fp : List Addr), PE (X.blk s H scope (compEnvC scope cl C X.env) fp) elt (rdE I w0 el)) (hs : ∀ x, foldedSetIterable iter X.env x = pure x := by intro _; rfl) (hs1 : ∀ env x, foldedSetIterable iter1 env x = pure x := by intro _ _; rfl) :
    PE X (.ListComp elt [⟨tg, iter, ifs, 0⟩, ⟨tg1, iter1, ifs1, 0⟩] scope pos) (rdE I w (dComp2 (own.map (·.2)) g di ta d1 g1 t1 el vs1)) :=
  PE_imp (pe_lc2 t.calm t.nd hi ok hv1 (fun s H C cl fp => PG_aside (hg s H C cl fp)) (fun s H C cl fp => PTs_aside (ht s H C cl fp)) (fun s H C cl fp => PI_aside (hi1 s H C cl fp)) (fun s H C cl fp => PG_aside (hg1 s H C cl fp)) (fun s H C cl fp => PTs_aside (ht1 s H C cl fp)) (fun s H C cl fp => PE_aside (he s H C cl fp)) hs hs1) fun σ H Q q => comp2_rd .plain hv q
end
end Py
/-! ### an instance called -/
namespace Py
open PySem PySem.Spec PyProof.Rows L2
def dCallO (F : FnTab) (c f n : Nat) (o : DE) (r : DA) : DE := fun e S => (o e S).bind fun x S1 => if isC c x S1 = true then ((r e S1).bind fun ws S2 => if isC c x S2 = true ∧ ws.length + 1 = n then F f (x :: ws) S2 else .bad) else .bad
section
variable {J : Jn} {X : Cx} {w : WX} {F Fi : FnTab} {k : Nat} {fe e : Expr} {es : List Expr} {d_o : DE} {dr : DA} {pos : Pos}
def tCallI (X : Cx) (C : Addr) (sp : Sp) (E : L2.St → XK) (tf : TE) (t : TA) : TE := fun σ H Q => tf σ H fun y H1 => ∃ a, y = V.ref a ∧ t σ H1 fun vs H2 => (∃ dx fs, H2 a = some (.ins C dx fs)) ∧ sp (V.ref a :: vs) H2 Q (E σ)
theorem pe_callI {CX : CXT} {n : Nat} {C fa : Addr} {fd : FuncData} {ps : List Str} {sp : Sp} {E : L2.St → XK} {tf : TE} {t : TA} (hf : PE X fe tf) {m : Str} (hm : Meth X.K C m fa) (em : m = ("__call__" : Str)) (hfi : PySem.W.fnIn X.K fa = true)
    (FO : FnOk X.prog X.w X.K X.mg X.base CX n fa fd ps sp) (hb : Binds X.K fd ps []) (hr : Room n X.A) (hx : ∀ σ, PassesAt CX X σ (E σ)) (ha : PA X (e :: es) t)
    (ht : eval (.Call fe (e :: es) [] pos) X.env = (do callWith pos (← eval fe X.env) [] (backTo pos (starEach (e :: es) X.env)) (backToKw pos (keywordEach [] X.env))) := by rfl)
    (he : starEach (e :: es) X.env = (false, eval e X.env) :: starEach es X.env := by rfl) (hpl : (backTo pos (starEach es X.env)).any (·.1) = false := by rfl) : PE X (.Call fe (e :: es) [] pos) (tCallI X C sp E tf t) := by
  subst em
  refine ⟨fun pins s σ H Q In h => ?_⟩
  refine Call_ (thn (hf.run pins s σ H _ In h) fun u s1 ⟨y, H1, I1, ry, a, ey, q⟩ => ?_) ht
  subst ey
  obtain rfl : u = Value.ref a := ry
  refine StX.callO_with (thn (ha.run pos pins s1 σ H1 _ I1 q) fun us s2 ⟨vs, H2, I2, r, ⟨dx, fs, hi⟩, q2⟩ => ?_) he hpl
  obtain ⟨mA, O, _⟩ := ins_get I2.hok hi
  obtain ⟨od, J1, _⟩ := O.look
  refine ⟨⟨C, _, _, J1, rfl⟩, wpAny_call (PySem.W.kco_code I2.kIn J1 rfl hm.at_ hm.fn hfi ?_)⟩
  have r2 : Vals (V.ref a :: vs ++ []) (Value.ref a :: us ++ []) := by rw [List.append_nil, List.append_nil]; exact .cons rfl r
  have q3 : sp (V.ref a :: vs ++ []) H2 Q (E σ) := by rw [List.append_nil]; exact q2
  have hl : (Value.ref a :: us ++ []).length = ps.length := by rw [← r2.length]; exact FO.len _ _ _ _ q3
  refine codeAny_mono (FO.run X.A X.stack s2 H2 ⟨Value.ref a :: us, []⟩ _ _ Q (E σ) hr I2.env0 (hb s2 _ I2.kIn hl) r2 q3) fun r s' hq => ?_
  cases r with
  | error e => exact hx σ pins H2 s2 e s' I2 hq
  | ok fl =>
    cases fl with
    | ret u => exact I2.after hq
    | next => exact False.elim hq
    | brk => exact False.elim hq
    | cont => exact False.elim hq
theorem sx_callO {c f n : Nat} {m : Str} (t : Cok J X w F Fi k) (h : J.sg.mt f = some (c, m, n)) (em : m = ("__call__" : Str)) (ho : PE X fe (rdE (J.inf X.K) w d_o)) (ha : PA X (e :: es) (rdA (J.inf X.K) w dr))
    (ht : eval (.Call fe (e :: es) [] pos) X.env = (do callWith pos (← eval fe X.env) [] (backTo pos (starEach (e :: es) X.env)) (backToKw pos (keywordEach [] X.env))) := by rfl)
    (he : starEach (e :: es) X.env = (false, eval e X.env) :: starEach es X.env := by rfl) (hpl : (backTo pos (starEach es X.env)).any (·.1) = false := by rfl) :
    PE X (.Call fe (e :: es) [] pos) (rdE (J.inf X.K) w (dCallO F c f n d_o dr)) := by
  obtain ⟨C, fa, fd, ps, h1, h2, h3, h4⟩ := t.meth f c m n h
  obtain ⟨C', fa', g1, g2, g3⟩ := t.fi f c m n h
  have eC := h1.symm.trans g1
  cases eC
  have ef := h2.at_.symm.trans g2.at_
  cases ef
  refine PE_imp (pe_callI (E := WE w) ho h2 em g3 h3 h4 t.room (fun σ => passAt t.tk σ) ha ht he hpl) fun σ H Q ⟨e, S, M, s, sl, p⟩ => ?_
  refine ⟨e, S, M, s, sl, (EndR.bind (rel1 := RepW (J.inf X.K)) p).imp fun v H1 ⟨x, S1, M1, l1, s1, r1, p1⟩ => ?_⟩
  split at p1
  · rename_i hx
    obtain ⟨a, C2, dx, vs, rfl, g, hb⟩ := recv_at s1 r1 hx
    refine ⟨a, rfl, e, S1, M1, s1, sl.mono l1, (EndR.bind (rel1 := RepWs (J.inf X.K)) p1).imp fun us H2 ⟨ws, S2, M2, l2, s2, r2, p2⟩ => ?_⟩
    split at p2
    · rename_i hh
      have r1' := r1.mono l2
      obtain ⟨b, C2, dx, vs, e1, g2, hb⟩ := recv_at s2 r1' hh.1
      cases e1
      have eC := h1.symm.trans g2
      cases eC
      exact ⟨⟨dx, _, hb⟩, by rw [← hh.2, Paired.length r2]; rfl, _ :: ws, S2, M2, s2, .cons r1' r2, p2⟩
    · exact p2.elim
  · exact p1.elim
end
end Py
/-! bool(x) where the instances of a class have their own __bool__ -/
namespace Py
open PySem PySem.Spec PyProof.Rows L2
theorem bool_new_in {prog : Program} {w : World} (x : Value) : MeetsIn prog w (Builtin.«bool.__new__» ⟨[.type "bool", x], []⟩) (fun A R s => wpAny (model prog w) A.in1 (truthy x) (fun b s' => R (.ok (.ret (.bool b))) s') (fun e s' => R (.error e) s') s) := by
  intro A R s h
  have f1 := PySem.F.conv_sub_bool
  unfold Builtin.«bool.__new__»
  refine wpAny_bind ?_
  repeat (any_goals (first | assumption | wp_step))
  exact wpAny_mono h (fun b s' hb => wpAny_pure hb) fun _ _ z => z
theorem call_bool_in {prog : Program} {w : World} {A : Around} {E : Value → Shared → Prop} {s : Shared} {x : Value} {Q : Value → Shared → Prop}
    (h : wpAny (model prog w) A.in1.in1 (truthy x) (fun b s' => Q (.bool b) s') E s) : wpAny (model prog w) A (call (.type "bool") [x]) Q E s :=
  callType_newIn PySem.F.called_bool PySem.F.newNe_bool (PySem.F.typeCall_bool_1 x) (PySem.F.newCall_bool_1 x) (fun obj => PySem.F.args_object_init_2 obj x) PySem.F.entry_bool_new (bool_new_in x) (wpAny_mono h (fun _ _ z => ⟨rfl, z⟩) fun _ _ z => z)
section
variable {J : Jn} {X : Cx} {w : WX} {F Fi : FnTab} {k : Nat}
def gBoolO (Fi : FnTab) (c f : Nat) : List W → Sto → R W
  | [.d (.obj c1 xs)], S => if c1 = c then (match Fi f [.d (.obj c1 xs)] S with
    | .ok (.d (.bl b)) S' => .ok (.d (.bl b)) S'
    | _ => .bad) else .bad
  | ws, S => gBool ws S
theorem c_boolO (t : Cok J X w F Fi k) {f c : Nat} (h : J.sg.mt f = some (c, ("__bool__" : Str), 1)) : CallR X (.type "bool") (rdCall (J.inf X.K) (gBoolO Fi c f)) := by
  intro pins s σ H vs us Q In r hh
  obtain ⟨ws, S, M, sim, rw', p⟩ := hh
  unfold gBoolO at p
  split at p
  · obtain ⟨v, rfl, rv⟩ := rw'.one
    obtain ⟨u, rfl, ru⟩ := vals1 r
    split at p
    · rename_i hc
      subst hc
      obtain ⟨C, fa, fd, ps, h1, h2, h3, h4⟩ := t.low f _ _ 1 h
      have rx0 := rv
      cases rv with
      | @obj a _ _ _ _ _ g1 e1 l1 q1 =>
      have eC := h1.symm.trans g1
      cases eC
      cases ru
      obtain ⟨od, J1⟩ := obj_look (I := J.inf X.K) In (mask_ex _ _ e1)
      obtain ⟨mm, hF⟩ := In.fr
      have hr : Room k X.A.in1.in1 := ⟨t.room.hd, by have := t.room.dp; show X.A.depth + 3 * k + 5 < _; omega, by have := t.room.un; show X.A.units + 1 + 1 + 16 * k + 200 < _; omega⟩
      refine call_bool_in (PySem.W.truthy_K hF In.ok.mod.kin J1 h2.at_ h2.fn ?_)
      have r2 : Vals [V.ref a] [Value.ref a] := .cons rel_ref .nil
      have q3 : spOf (J.inf X.K) Fi f 1 [V.ref a] H (fun v H' => ∃ b, v = .bl b ∧ Q (.bl b) H') E0 := ⟨rfl, _, S, M, sim, .cons rx0 .nil, by
        split at p
        · rename_i b S' he
          rw [he]
          intro v H' M' l' s' rv'
          cases rv'
          exact ⟨_, rfl, p (.bl b) H' M' l' s' (.bl _)⟩
        · exact p.elim⟩
      have hl : [Value.ref a].length = ps.length := by rw [← r2.length]; exact h3.len _ _ _ _ q3
      have hb := h4 s [Value.ref a] In.kIn (by rw [List.append_nil]; exact hl)
      rw [List.append_nil] at hb
      refine wpAny_call (codeAny_mono (h3.run X.A.in1.in1 X.stack s H ⟨[Value.ref a], []⟩ _ _ _ E0 hr In.env0.in1.in1 hb r2 q3) fun r s' hq => ?_)
      cases r with
      | error e => exact passL _ σ H s e s' In hq
      | ok fl =>
        cases fl with
        | ret u =>
          obtain ⟨v, H', I', rv', b, rfl, q⟩ := In.after hq
          cases rv'
          exact ⟨.bl b, H', I', rfl, q⟩
        | next => exact False.elim hq
        | brk => exact False.elim hq
        | cont => exact False.elim hq
    · exact p.elim
  · exact c_bool (I := J.inf X.K) pins s σ H vs us Q In r ⟨_, S, M, sim, rw', p⟩
end
end Py

/-! Py14: what an evaluation ends in. -/
namespace Py
open PySem PySem.Spec PyProof.Rows L2
/-- keeps simp out of what comes later -/
structure Tg {α : Type} (a : α) : Type where
def R.sat {α : Type} (r : R α) (Q : α → Sto → Prop) (_ : Tg Q := ⟨⟩) : Prop := match r with
  | .ok a S => Q a S
  | _ => False
def RS.sat (r : RS) (N : Env → Sto → Prop) (T : W → Sto → Prop) (B C : Env → Sto → Prop) (_ : Tg N := ⟨⟩) (_ : Tg T := ⟨⟩) (_ : Tg B := ⟨⟩) (_ : Tg C := ⟨⟩) : Prop := match r with
  | .nx e S => N e S
  | .rt w S => T w S
  | .bk e S => B e S
  | .ct e S => C e S
  | _ => False
def NoB : Env → Sto → Prop := fun _ _ => False
def ofO' {α : Type} (o : Option α) (Q : α → Prop) (_ : Tg Q := ⟨⟩) : Prop := match o with
  | some a => Q a
  | none => False
/-- a branch that is not walked into yet -/
def Br (c : Prop) (A B : Unit → Prop) (_ : Tg A := ⟨⟩) (_ : Tg B := ⟨⟩) : Prop := (c → A ()) ∧ (¬ c → B ())
section
variable {α β : Type} {Q Q' : α → Sto → Prop} {P : β → Sto → Prop} {r : R α} {f : α → Sto → R β} {N N' : Env → Sto → Prop} {T T' : W → Sto → Prop} {B C : Env → Sto → Prop} {e : Env} {S : Sto} {a b : DS}
theorem br_of {c : Prop} {A B : Unit → Prop} (h1 : c → A ()) (h2 : ¬ c → B ()) : Br c A B := ⟨h1, h2⟩
theorem br_t {A B : Unit → Prop} : Br True A B = A () := by simp [Br]
theorem br_f {A B : Unit → Prop} : Br False A B = B () := by simp [Br]
theorem br_cong {c : Prop} {A A' B B' : Unit → Prop} (h1 : A () = A' ()) (h2 : B () = B' ()) : Br c A B = Br c A' B' := by
  have h1 : A = A' := by funext x; exact h1
  have h2 : B = B' := by funext x; exact h2
  subst h1 h2
  rfl
theorem sat_ok {x : α} : (R.ok x S).sat Q = Q x S := rfl
theorem sat_bad : (R.bad : R α).sat Q = False := rfl
theorem sat_bind : (r.bind f).sat P = r.sat fun x S1 => (f x S1).sat P := by cases r <;> rfl
theorem sat_ne : r.ne.sat Q = r.sat Q := by cases r <;> rfl
theorem sat_mono (h : r.sat Q) (i : ∀ x S, Q x S → Q' x S) : r.sat Q' := by
  cases r with
  | ok x S => exact i _ _ h
  | exc c x S => exact h
  | bad => exact h
theorem sat_cong {r : R α} (h : ∀ x S, Q x S = Q' x S) : r.sat Q = r.sat Q' := by
  cases r with
  | ok x S => exact h _ _
  | exc c x S => rfl
  | bad => rfl
theorem sat_get (h : r.sat Q) : ∃ x S, r = .ok x S ∧ Q x S := by
  cases r with
  | ok x S => exact ⟨x, S, rfl, h⟩
  | exc c x S => exact h.elim
  | bad => exact h.elim
theorem sat_eq {x : α} {S' : Sto} (h : r = .ok x S') : r.sat Q = Q x S' := by rw [h]; rfl
theorem sat_ite {c : Prop} [Decidable c] {u v : R α} : (if c then u else v).sat Q = Br c (fun _ => u.sat Q) (fun _ => v.sat Q) := by
  by_cases h : c
  · rw [if_pos h]; simp [Br, h]
  · rw [if_neg h]; simp [Br, h]
theorem rs_nx : (RS.nx e S).sat N T B C = N e S := rfl
theorem rs_rt {w : W} : (RS.rt w S).sat N T B C = T w S := rfl
theorem rs_bk : (RS.bk e S).sat N T B C = B e S := rfl
theorem rs_ct : (RS.ct e S).sat N T B C = C e S := rfl
theorem rs_bad : (RS.bad).sat N T B C = False := rfl
theorem rs_bind {k : α → Sto → RS} : (bindS r e k).sat N T B C = r.sat fun x S1 => (k x S1).sat N T B C := by cases r <;> rfl
theorem rs_ite {c : Prop} [Decidable c] {u v : RS} : (if c then u else v).sat N T B C = Br c (fun _ => u.sat N T B C) (fun _ => v.sat N T B C) := by
  by_cases h : c
  · rw [if_pos h]; simp [Br, h]
  · rw [if_neg h]; simp [Br, h]
theorem rs_seq : (sSeq a b e S).sat N T B C = (a e S).sat (fun e1 S1 => (b e1 S1).sat N T B C) T B C := by
  unfold sSeq
  cases a e S <;> rfl
theorem rs_mono {r : RS} {B' C' : Env → Sto → Prop} (h : r.sat N T B C) (i : ∀ e S, N e S → N' e S) (j : ∀ w S, T w S → T' w S) (k : ∀ e S, B e S → B' e S) (l : ∀ e S, C e S → C' e S) : r.sat N' T' B' C' := by
  cases r with
  | nx e S => exact i _ _ h
  | rt w S => exact j _ _ h
  | bk e S => exact k _ _ h
  | ct e S => exact l _ _ h
  | exc c x e S => exact h
  | bad => exact h
/-- a statement ahead of others: what holds behind it, said -/
theorem rs_cut (N1 : Env → Sto → Prop) (h : (a e S).sat N1 T B C) (k : ∀ e1 S1, N1 e1 S1 → (b e1 S1).sat N T B C) : (sSeq a b e S).sat N T B C := by
  rw [rs_seq]
  exact rs_mono h k (fun _ _ h => h) (fun _ _ h => h) (fun _ _ h => h)
theorem rs_pass : (sPass e S).sat N T B C = N e S := rfl
/-- what a def gives back, the store cut -/
def cutR (n : Nat) (Q : W → Sto → Prop) : W → Sto → Prop := fun w S => match w with
  | .d x => Q (.d x) (S.take n)
  | .c i => if i < n then Q (.c i) (S.take n) else Q (.c i) S
  | .e c x => Q (.e c x) (S.take n)
theorem cutR_d {n : Nat} {Q : W → Sto → Prop} {x : D} : cutR n Q (.d x) S = Q (.d x) (S.take n) := rfl
theorem cutR_c {n i : Nat} {Q : W → Sto → Prop} : cutR n Q (.c i) S = if i < n then Q (.c i) (S.take n) else Q (.c i) S := rfl
theorem run_sat {M ar : Nat} {body : DS} {ws : List W} {Q : W → Sto → Prop} (hl : ws.length = ar) (h : (body (ws.map some ++ List.replicate (M - ws.length) none) S).sat (fun _ S' => cutR S.length Q (.d .non) S') (cutR S.length Q) NoB NoB) : (runDef M ar body ws S).sat Q := by
  unfold runDef
  rw [if_pos hl]
  generalize body (ws.map some ++ List.replicate (M - ws.length) none) S = r at h
  have go : ∀ w S', cutR S.length Q w S' → (fin S.length (.ok w S')).sat Q := fun w S' h => by
    cases w with
    | d x => exact h
    | e c x => exact h
    | c i =>
      show (if i < S.length then R.ok (W.c i) (S'.take S.length) else R.ok (W.c i) S').sat Q
      have h : if i < S.length then Q (.c i) (S'.take S.length) else Q (.c i) S' := h
      split
      · rename_i hi
        rw [if_pos hi] at h
        exact h
      · rename_i hi
        rw [if_neg hi] at h
        exact h
  cases r with
  | nx e S' => exact go _ _ h
  | rt w S' => exact go _ _ h
  | bk e S' => exact h.elim
  | ct e S' => exact h.elim
  | exc c x e S' => exact h.elim
  | bad => exact h.elim
/-! loops -/
theorem for_sat {ks : List Nat} {g : GT} {gd : Sto → Prop} {xs : List W} (Inv : Nat → Env → Sto → Prop) (h0 : Inv 0 e S)
    (hs : ∀ i x e S, xs[i]? = some x → Inv i e S → gd S ∧ ∃ e1, g x (uns ks e) = some e1 ∧ (b e1 S).sat (Inv (i + 1)) T (fun e2 S2 => N (uns ks e2) S2) (Inv (i + 1)))
    (hd : ∀ e S, Inv xs.length e S → gd S ∧ N (uns ks e) S) : (forL ks g b gd xs e S).sat N T B C := by
  induction xs generalizing Inv e S with
  | nil =>
    unfold forL
    obtain ⟨h1, h2⟩ := hd _ _ h0
    rw [if_pos h1]
    exact h2
  | cons x xs ih =>
    unfold forL
    obtain ⟨h1, e1, h2, h3⟩ := hs 0 x e S rfl h0
    rw [if_pos h1, h2]
    dsimp only
    have next : ∀ e2 S2, Inv 1 e2 S2 → (forL ks g b gd xs e2 S2).sat N T B C := fun e2 S2 h => ih (fun i => Inv (i + 1)) h (fun i y e S hy hi => hs (i + 1) y e S hy hi) hd
    generalize b e1 S = r at h3
    cases r with
    | nx e2 S2 => exact next _ _ h3
    | ct e2 S2 => exact next _ _ h3
    | bk e2 S2 => exact h3
    | rt w S2 => exact h3
    | exc c y e2 S2 => exact h3.elim
    | bad => exact h3.elim
theorem while_sat {ks : List Nat} {t : DT} {n : Nat} (Inv : Nat → Env → Sto → Prop) (m : Nat) (hm : m < n) (h0 : Inv m e S)
    (hs : ∀ m e S, Inv m e S → (t (uns ks e) S).sat fun c S1 => if c = true then (b (uns ks e) S1).sat (fun e2 S2 => ∃ m', m' < m ∧ Inv m' e2 S2) T (fun e2 S2 => N (uns ks e2) S2) (fun e2 S2 => ∃ m', m' < m ∧ Inv m' e2 S2) else N (uns ks e) S1) : (whileL ks t b n e S).sat N T B C := by
  induction n generalizing m e S with
  | zero => cases hm
  | succ n ih =>
    unfold whileL
    have h := hs m e S h0
    rw [rs_bind]
    refine sat_mono h fun c S1 h => ?_
    split at h
    · rename_i hc
      rw [if_pos hc]
      have next : ∀ e2 S2, (∃ m', m' < m ∧ Inv m' e2 S2) → (whileL ks t b n e2 S2).sat N T B C := fun e2 S2 ⟨m', h1, h2⟩ => ih m' (by omega) h2
      generalize b (uns ks e) S1 = r at h
      cases r with
      | nx e2 S2 => exact next _ _ h
      | ct e2 S2 => exact next _ _ h
      | bk e2 S2 => exact h
      | rt w S2 => exact h
      | exc c y e2 S2 => exact h.elim
      | bad => exact h.elim
    · rename_i hc
      rw [if_neg hc]
      exact h
theorem sWhile_eq {n : Nat} {ks : List Nat} {t : DT} : sWhile n ks t b e S = whileL ks t b n e S := rfl
theorem rs_for {ks : List Nat} {g : GT} {i : DI} : (sFor ks g i b e S).sat N T B C = (i e S).sat fun p S1 => (forL ks g b p.2 p.1 e S1).sat N T B C := by
  unfold sFor
  rw [rs_bind]
/-- a comprehension without a test -/
theorem comp_sat {g : GT} {el : DE} {gd : Sto → Prop} {xs : List W} {Q : List W → Sto → Prop} (Inv : Nat → List W → Sto → Prop) (h0 : Inv 0 [] S)
    (hs : ∀ i x ys S, xs[i]? = some x → Inv i ys S → gd S ∧ ∃ e1, g x e = some e1 ∧ (el e1 S).sat fun y S2 => Inv (i + 1) (ys ++ [y]) S2)
    (hd : ∀ ys S, Inv xs.length ys S → gd S ∧ Q ys S) : (compL g tYesD el gd e xs S).sat Q := by
  suffices h : ∀ acc, Inv 0 acc S → (compL g tYesD el gd e xs S).sat fun ys S2 => Q (acc ++ ys) S2 by simpa using h [] h0
  clear h0
  intro acc h0
  induction xs generalizing Inv acc S with
  | nil =>
    unfold compL
    obtain ⟨h1, h2⟩ := hd _ _ h0
    rw [if_pos h1, sat_ok, List.append_nil]
    exact h2
  | cons x xs ih =>
    unfold compL
    obtain ⟨h1, e1, h2, h3⟩ := hs 0 x acc S rfl h0
    rw [if_pos h1, h2]
    dsimp only [tYesD]
    rw [sat_bind, sat_ne, sat_ok, if_pos rfl, sat_bind, sat_ne]
    refine sat_mono h3 fun y S2 h3 => ?_
    rw [sat_bind]
    refine sat_mono (ih (fun i => Inv (i + 1)) (fun i z ys S hz hi => hs (i + 1) z ys S hz hi) hd (acc ++ [y]) h3) fun ys S3 h => ?_
    rw [sat_ok]
    simpa using h
/-- a comprehension with a test -/
theorem compT_sat {g : GT} {t : DT} {el : DE} {gd : Sto → Prop} {xs : List W} {Q : List W → Sto → Prop} (Inv : Nat → List W → Sto → Prop) (h0 : Inv 0 [] S)
    (hs : ∀ i x ys S, xs[i]? = some x → Inv i ys S → gd S ∧ ∃ e1, g x e = some e1 ∧ (t e1 S).sat fun c S1 => if c = true then (el e1 S1).sat fun y S2 => Inv (i + 1) (ys ++ [y]) S2 else Inv (i + 1) ys S1)
    (hd : ∀ ys S, Inv xs.length ys S → gd S ∧ Q ys S) : (compL g t el gd e xs S).sat Q := by
  suffices h : ∀ acc, Inv 0 acc S → (compL g t el gd e xs S).sat fun ys S2 => Q (acc ++ ys) S2 by simpa using h [] h0
  clear h0
  intro acc h0
  induction xs generalizing Inv acc S with
  | nil =>
    unfold compL
    obtain ⟨h1, h2⟩ := hd _ _ h0
    rw [if_pos h1, sat_ok, List.append_nil]
    exact h2
  | cons x xs ih =>
    unfold compL
    obtain ⟨h1, e1, h2, h3⟩ := hs 0 x acc S rfl h0
    rw [if_pos h1, h2]
    dsimp only
    rw [sat_bind, sat_ne]
    refine sat_mono h3 fun c S1 h3 => ?_
    cases c with
    | false =>
      rw [if_neg (by decide)] at h3 ⊢
      exact ih (fun i => Inv (i + 1)) (fun i z ys S hz hi => hs (i + 1) z ys S hz hi) hd acc h3
    | true =>
      rw [if_pos rfl] at h3 ⊢
      rw [sat_bind, sat_ne]
      refine sat_mono h3 fun y S2 h3 => ?_
      rw [sat_bind]
      refine sat_mono (ih (fun i => Inv (i + 1)) (fun i z ys S hz hi => hs (i + 1) z ys S hz hi) hd (acc ++ [y]) h3) fun ys S3 h => ?_
      rw [sat_ok]
      simpa using h
/-- a comprehension of two clauses -/
theorem comp2_sat {g g1 : GT} {t t1 : DT} {d1 : DI} {el : DE} {k1 : List Nat} {gd : Sto → Prop} {xs : List W} {Q : List W → Sto → Prop} (Inv : Nat → List W → Sto → Prop) (h0 : Inv 0 [] S)
    (hs : ∀ i x ys S, xs[i]? = some x → Inv i ys S → gd S ∧ ∃ e1, g x e = some e1 ∧ (t e1 S).sat fun c S1 => if c = true then (d1 e1 S1).sat fun p S2 => (compL g1 t1 el p.2 (uns k1 e1) p.1 S2).sat fun zs S3 => Inv (i + 1) (ys ++ zs) S3 else Inv (i + 1) ys S1)
    (hd : ∀ ys S, Inv xs.length ys S → gd S ∧ Q ys S) : (compL2 g t d1 g1 t1 el k1 gd e xs S).sat Q := by
  suffices h : ∀ acc, Inv 0 acc S → (compL2 g t d1 g1 t1 el k1 gd e xs S).sat fun ys S2 => Q (acc ++ ys) S2 by simpa using h [] h0
  clear h0
  intro acc h0
  induction xs generalizing Inv acc S with
  | nil =>
    unfold compL2
    obtain ⟨h1, h2⟩ := hd _ _ h0
    rw [if_pos h1, sat_ok, List.append_nil]
    exact h2
  | cons x xs ih =>
    unfold compL2
    obtain ⟨h1, e1, h2, h3⟩ := hs 0 x acc S rfl h0
    rw [if_pos h1, h2]
    dsimp only
    rw [sat_bind, sat_ne]
    refine sat_mono h3 fun c S1 h3 => ?_
    cases c with
    | false =>
      rw [if_neg (by decide)] at h3 ⊢
      exact ih (fun i => Inv (i + 1)) (fun i z ys S hz hi => hs (i + 1) z ys S hz hi) hd acc h3
    | true =>
      rw [if_pos rfl] at h3 ⊢
      rw [sat_bind, sat_ne]
      refine sat_mono h3 fun y S2 h3 => ?_
      rw [sat_bind]
      refine sat_mono h3 fun zs S3 h3 => ?_
      rw [sat_bind]
      refine sat_mono (ih (fun i => Inv (i + 1)) (fun i z ys S hz hi => hs (i + 1) z ys S hz hi) hd (acc ++ zs) h3) fun ys S3 h => ?_
      rw [sat_ok]
      simpa [List.append_assoc] using h
theorem comp_map {g : GT} {el : DE} {gd : Sto → Prop} {xs : List W} {Q : List W → Sto → Prop} (f : W → W) (h : ∀ x ∈ xs, ∃ e1, g x e = some e1 ∧ (el e1 S).sat fun y S2 => y = f x ∧ S2 = S) (hg : gd S) (hq : Q (xs.map f) S) : (compL g tYesD el gd e xs S).sat Q := by
  refine comp_sat (fun i ys S1 => S1 = S ∧ ys = (xs.take i).map f) ⟨rfl, rfl⟩ ?_ ?_
  · rintro i x ys S1 hx ⟨rfl, rfl⟩
    obtain ⟨e1, h1, h2⟩ := h x (List.mem_of_getElem? hx)
    refine ⟨hg, e1, h1, sat_mono h2 ?_⟩
    rintro y S2 ⟨rfl, rfl⟩
    refine ⟨rfl, ?_⟩
    rw [List.take_succ, hx, List.map_append]
    rfl
  · rintro ys S1 ⟨rfl, rfl⟩
    rw [List.take_length]
    exact ⟨hg, hq⟩
theorem comp_each {α : Type} {g : GT} {el : DE} {gd : Sto → Prop} {xs : List W} {Q : List W → Sto → Prop} {l : List α} {mk : α → W} {f : α → D} (hxs : xs = l.map mk) (h : ∀ a ∈ l, ∃ e1, g (mk a) e = some e1 ∧ (el e1 S).sat fun y S2 => y = .d (f a) ∧ S2 = S) (hg : gd S) (hq : Q ((l.map f).map W.d) S) : (compL g tYesD el gd e xs S).sat Q := by
  subst hxs
  refine comp_sat (fun i ys S1 => S1 = S ∧ ys = ((l.take i).map f).map W.d) ⟨rfl, rfl⟩ ?_ ?_
  · rintro i x ys S1 hx ⟨rfl, rfl⟩
    rw [List.getElem?_map] at hx
    cases q : l[i]? with
    | none => rw [q] at hx; cases hx
    | some a =>
      rw [q] at hx
      have hx : mk a = x := by simpa using hx
      subst hx
      obtain ⟨e1, h1, h2⟩ := h a (List.mem_of_getElem? q)
      refine ⟨hg, e1, h1, sat_mono h2 ?_⟩
      rintro y S2 ⟨rfl, rfl⟩
      refine ⟨rfl, ?_⟩
      rw [List.take_succ, q, List.map_append, List.map_append]
      rfl
  · rintro ys S1 ⟨rfl, rfl⟩
    rw [List.length_map, List.take_length]
    exact ⟨hg, hq⟩
theorem comp_nil {g : GT} {el : DE} {gd : Sto → Prop} {Q : List W → Sto → Prop} : (compL g tYesD el gd e [] S).sat Q = (gd S ∧ Q [] S) := by
  unfold compL
  by_cases h : gd S
  · rw [if_pos h, sat_ok]
    simp [h]
  · rw [if_neg h, sat_bad]
    simp [h]
theorem comp_cons {g : GT} {el : DE} {gd : Sto → Prop} {x : W} {xs : List W} {Q : List W → Sto → Prop} : (compL g tYesD el gd e (x :: xs) S).sat Q = Br (gd S) (fun _ => ofO' (g x e) fun e1 => (el e1 S).sat fun y S2 => (compL g tYesD el gd e xs S2).sat fun ys S3 => Q (y :: ys) S3) (fun _ => False) := by
  rw [compL]
  by_cases hg : gd S
  · rw [if_pos hg]
    simp only [Br, hg, not_true_eq_false, false_implies, and_true, true_implies]
    cases h : g x e with
    | none =>
      rfl
    | some e1 =>
      show (((tYesD e1 S).ne.bind fun c S1 => if c = true then ((el e1 S1).ne.bind fun y S2 => (compL g tYesD el gd e xs S2).bind fun ys S3 => .ok (y :: ys) S3) else compL g tYesD el gd e xs S1) : R (List W)).sat Q = _
      rw [sat_bind, sat_ne]
      show ((if true = true then _ else _ : R (List W))).sat Q = _
      rw [if_pos rfl, sat_bind, sat_ne]
      refine sat_cong fun y S2 => ?_
      rw [sat_bind]
      rfl
  · rw [if_neg hg, sat_bad]
    simp [Br, hg]
theorem dComp_sat {own : List Nat} {g : GT} {i : DI} {t : DT} {el : DE} {Q : W → Sto → Prop} : (dComp own g i t el e S).sat Q = (i e S).sat fun p S1 => (compL g t el p.2 (uns own e) p.1 S1).sat fun ws S2 => Br (ws.length ≤ 16777216) (fun _ => ofO' (plainL ws) fun xs => Q (.d (.lst xs)) S2) (fun _ => False) := by
  unfold dComp
  rw [sat_bind]
  refine sat_cong fun p S1 => ?_
  rw [sat_bind]
  refine sat_cong fun ws S2 => ?_
  rw [sat_ite]
  refine br_cong ?_ rfl
  generalize plainL ws = o
  cases o <;> rfl
theorem dCompC_sat {own : List Nat} {g : GT} {i : DI} {t : DT} {el : DE} {Q : W → Sto → Prop} : (dCompC own g i t el e S).sat Q = (i e S).sat fun p S1 => (compL g t el p.2 (uns own e) p.1 S1).sat fun ws S2 => Br (ws.length ≤ 16777216) (fun _ => Q (.c S2.length) (S2 ++ [.lst ws])) (fun _ => False) := by
  unfold dCompC
  rw [sat_bind]
  refine sat_cong fun p S1 => ?_
  rw [sat_bind]
  refine sat_cong fun ws S2 => ?_
  rw [sat_ite]
  rfl
theorem dComp2_sat {own k1 : List Nat} {g g1 : GT} {i d1 : DI} {t t1 : DT} {el : DE} {Q : W → Sto → Prop} : (dComp2 own g i t d1 g1 t1 el k1 e S).sat Q = (i e S).sat fun p S1 => (compL2 g t d1 g1 t1 el k1 p.2 (uns own e) p.1 S1).sat fun ws S2 => Br (ws.length ≤ 16777216) (fun _ => ofO' (plainL ws) fun xs => Q (.d (.lst xs)) S2) (fun _ => False) := by
  unfold dComp2
  rw [sat_bind]
  refine sat_cong fun p S1 => ?_
  rw [sat_bind]
  refine sat_cong fun ws S2 => ?_
  rw [sat_ite]
  refine br_cong ?_ rfl
  generalize plainL ws = o
  cases o <;> rfl
end
end Py

/-! Py15: how an evaluation is run; whole numbers. -/
namespace Py
open PySem PySem.Spec PyProof.Rows L2
theorem opPow18 {S : Sto} : opPow (.d (.int 10)) (.d (.int 18)) S = .ok (.d (.int 1000000000000000000)) S := by
  show (if (0 : Int) ≤ 18 ∧ (18 : Int) ≤ 1000000 ∧ Int.natAbs 10 < 2 ^ 64 then R.ok (W.d (.int ((10 : Int) ^ (18 : Int).toNat))) S else .bad) = _
  rw [if_pos (by decide)]
  rfl
theorem plainL_map {xs : List D} : plainL (xs.map W.d) = some xs := by
  induction xs with
  | nil => rfl
  | cons x xs ih =>
    rw [List.map_cons, plainL, ih]
theorem truO_bl {F : FnTab} {c f : Nat} {b : Bool} {S : Sto} : truO F c f (.d (.bl b)) S = .ok b S := rfl
theorem truO_int {F : FnTab} {c f : Nat} {b : Int} {S : Sto} : truO F c f (.d (.int b)) S = .ok (b != 0) S := rfl
theorem truO_tup {F : FnTab} {c f : Nat} {b : List D} {S : Sto} : truO F c f (.d (.tup b)) S = .ok (!b.isEmpty) S := rfl
theorem truO_lst {F : FnTab} {c f : Nat} {b : List D} {S : Sto} : truO F c f (.d (.lst b)) S = .ok (!b.isEmpty) S := rfl
theorem truO_non {F : FnTab} {c f : Nat} {S : Sto} : truO F c f (.d .non) S = .ok false S := rfl
theorem dec_t {p : Prop} [Decidable p] : ((decide p : Bool) = true) = p := by simp
theorem ofO_s {α : Type} {a : α} {Q : α → Prop} : ofO' (some a) Q = Q a := rfl
theorem ofO_n {α : Type} {Q : α → Prop} : ofO' (none : Option α) Q = False := rfl
def GV (o : Option (Option W)) (Q : W → Sto → Prop) (S : Sto) (_ : Tg Q := ⟨⟩) : Prop := match o with
  | some (some w) => Q w S
  | _ => False
theorem GV_s {w : W} {Q : W → Sto → Prop} {S : Sto} : GV (some (some w)) Q S = Q w S := rfl
def tupR (ws : List W) (S : Sto) : R W := match plainL ws with
  | some xs => if xs.length ≤ sizeLine then .ok (.d (.tup xs)) S else .bad
  | none => .bad
def lstR (ws : List W) (S : Sto) : R W := match plainL ws with
  | some xs => if xs.length ≤ sizeLine then .ok (.d (.lst xs)) S else .bad
  | none => .bad
def lstCR (ws : List W) (S : Sto) : R W := if ws.length ≤ sizeLine then .ok (.c S.length) (S ++ [.lst ws]) else .bad
def tbR (x : W) (S : Sto) : R Bool := match x with
  | .d (.bl b) => .ok b S
  | _ => .bad
def isTR (T : Ty) (x : W) (S : Sto) : R W := match tyOf x S with
  | some t => .ok (.d (.bl (isT t T))) S
  | none => .bad
def isCR (sub : Nat → Nat → Bool) (c : Nat) (x : W) (S : Sto) : R W := match tyOf x S with
  | some (.cls c') => .ok (.d (.bl (sub c' c))) S
  | some _ => .ok (.d (.bl false)) S
  | none => .bad
def someR (x : W) (S : Sto) : R (Option Int) := match x with
  | .d (.int i) => .ok (some i) S
  | _ => .bad
def itR (x : W) (S : Sto) : R (List W × (Sto → Prop)) := match itemsOf x S with
  | some p => .ok p S
  | none => .bad
section
variable {α β : Type} {Q : W → Sto → Prop} {QA : List W → Sto → Prop} {QT : Bool → Sto → Prop} {QI : List W × (Sto → Prop) → Sto → Prop} {QO : Option Int → Sto → Prop} {N : Env → Sto → Prop} {T : W → Sto → Prop} {B C : Env → Sto → Prop} {e : Env} {S : Sto} {a b o : DE} {r : DA} {t u : DT} {s s' : DS} {F Fi : FnTab} {f n c i j : Nat}
theorem s_var : (dVar i e S).sat Q = GV e[i]? Q S := by
  unfold dVar GV
  split <;> simp_all [R.sat]
theorem s_c {x : D} : (dC x e S).sat Q = Q (.d x) S := rfl
theorem s_op {g : W → W → Sto → R W} : (dOp g a b e S).sat Q = (a e S).sat fun x S1 => (b e S1).sat fun y S2 => (g x y S2).sat Q := by
  unfold dOp
  repeat' first | rfl | rw [sat_bind] | rw [sat_ne] | (refine sat_cong fun _ _ => ?_) | rw [sat_ite] | (refine br_cong ?_ ?_)
theorem s_un {g : W → Sto → R W} : (dUn g a e S).sat Q = (a e S).sat fun x S1 => (g x S1).sat Q := by
  unfold dUn
  repeat' first | rfl | rw [sat_bind] | rw [sat_ne] | (refine sat_cong fun _ _ => ?_) | rw [sat_ite] | (refine br_cong ?_ ?_)
theorem s_nil : (dNil e S).sat QA = QA [] S := rfl
theorem s_cons : (dCons a r e S).sat QA = (a e S).sat fun x S1 => (r e S1).sat fun xs S2 => QA (x :: xs) S2 := by
  unfold dCons
  repeat' first | rfl | rw [sat_bind] | rw [sat_ne] | (refine sat_cong fun _ _ => ?_) | rw [sat_ite] | (refine br_cong ?_ ?_)
theorem s_tup : (dTup r e S).sat Q = (r e S).sat fun ws S1 => (tupR ws S1).sat Q := by
  unfold dTup
  repeat' first | rfl | rw [sat_bind] | rw [sat_ne] | (refine sat_cong fun _ _ => ?_) | rw [sat_ite] | (refine br_cong ?_ ?_)
theorem s_lst : (dLst r e S).sat Q = (r e S).sat fun ws S1 => (lstR ws S1).sat Q := by
  unfold dLst
  repeat' first | rfl | rw [sat_bind] | rw [sat_ne] | (refine sat_cong fun _ _ => ?_) | rw [sat_ite] | (refine br_cong ?_ ?_)
theorem s_lstC : (dLstC r e S).sat Q = (r e S).sat fun ws S1 => (lstCR ws S1).sat Q := by
  unfold dLstC
  repeat' first | rfl | rw [sat_bind] | rw [sat_ne] | (refine sat_cong fun _ _ => ?_) | rw [sat_ite] | (refine br_cong ?_ ?_)
theorem s_frz : (dFrz a e S).sat Q = (a e S).sat fun x S1 => (frz x S1).sat Q := by
  unfold dFrz
  repeat' first | rfl | rw [sat_bind] | rw [sat_ne] | (refine sat_cong fun _ _ => ?_) | rw [sat_ite] | (refine br_cong ?_ ?_)
theorem s_call : (dCall F f n r e S).sat Q = (r e S).sat fun ws S1 => Br (ws.length = n) (fun _ => (F f ws S1).sat Q) (fun _ => False) := by
  unfold dCall
  repeat' first | rfl | rw [sat_bind] | rw [sat_ne] | (refine sat_cong fun _ _ => ?_) | rw [sat_ite] | (refine br_cong ?_ ?_)
theorem s_meth : (dMeth F c f n a r e S).sat Q = (a e S).sat fun x S1 => Br (isC c x S1 = true) (fun _ => (r e S1).sat fun ws S2 => Br (ws.length + 1 = n) (fun _ => (F f (x :: ws) S2).sat Q) (fun _ => False)) (fun _ => False) := by
  unfold dMeth
  repeat' first | rfl | rw [sat_bind] | rw [sat_ne] | (refine sat_cong fun _ _ => ?_) | rw [sat_ite] | (refine br_cong ?_ ?_)
theorem s_mk {g : List W → Sto → R W} {dfl : List D} : (dMk g dfl r e S).sat Q = (r e S).sat fun ws S1 => (g (ws ++ dfl.map W.d) S1).sat Q := by
  unfold dMk
  repeat' first | rfl | rw [sat_bind] | rw [sat_ne] | (refine sat_cong fun _ _ => ?_) | rw [sat_ite] | (refine br_cong ?_ ?_)
theorem s_mkK {g : List W → Sto → R W} {m k : Nat} {r' : DA} : (dMkK m k g r r' e S).sat Q = (r e S).sat fun ws S1 => (r' e S1).sat fun us S2 => Br (ws.length = m ∧ us.length = k) (fun _ => (g (ws ++ us) S2).sat Q) (fun _ => False) := by
  unfold dMkK
  repeat' first | rfl | rw [sat_bind] | rw [sat_ne] | (refine sat_cong fun _ _ => ?_) | rw [sat_ite] | (refine br_cong ?_ ?_)
theorem s_attr : (dAttr c i a e S).sat Q = (a e S).sat fun x S1 => (attr c i x S1).sat Q := by
  unfold dAttr
  repeat' first | rfl | rw [sat_bind] | rw [sat_ne] | (refine sat_cong fun _ _ => ?_) | rw [sat_ite] | (refine br_cong ?_ ?_)
theorem s_tr {g : W → Sto → R Bool} : (dTr g a e S).sat QT = (a e S).sat fun x S1 => (g x S1).sat QT := by
  unfold dTr
  repeat' first | rfl | rw [sat_bind] | rw [sat_ne] | (refine sat_cong fun _ _ => ?_) | rw [sat_ite] | (refine br_cong ?_ ?_)
theorem s_tb : (dTb a e S).sat QT = (a e S).sat fun x S1 => (tbR x S1).sat QT := by
  unfold dTb
  repeat' first | rfl | rw [sat_bind] | rw [sat_ne] | (refine sat_cong fun _ _ => ?_) | rw [sat_ite] | (refine br_cong ?_ ?_)
theorem s_and : (dAnd t u e S).sat QT = (t e S).sat fun c S1 => Br (c = true) (fun _ => (u e S1).sat QT) (fun _ => QT false S1) := by
  unfold dAnd
  repeat' first | rfl | rw [sat_bind] | rw [sat_ne] | (refine sat_cong fun _ _ => ?_) | rw [sat_ite] | (refine br_cong ?_ ?_)
theorem s_or : (dOr t u e S).sat QT = (t e S).sat fun c S1 => Br (c = true) (fun _ => QT true S1) (fun _ => (u e S1).sat QT) := by
  unfold dOr
  repeat' first | rfl | rw [sat_bind] | rw [sat_ne] | (refine sat_cong fun _ _ => ?_) | rw [sat_ite] | (refine br_cong ?_ ?_)
theorem s_not : (dNot t e S).sat QT = (t e S).sat fun c S1 => QT (!c) S1 := by
  unfold dNot
  repeat' first | rfl | rw [sat_bind] | rw [sat_ne] | (refine sat_cong fun _ _ => ?_) | rw [sat_ite] | (refine br_cong ?_ ?_)
theorem s_andV : (dAndV a b e S).sat Q = (a e S).sat fun x S1 => (tbR x S1).sat fun c S1 => Br (c = true) (fun _ => (b e S1).sat Q) (fun _ => Q (.d (.bl false)) S1) := by
  unfold dAndV
  rw [sat_bind]
  refine sat_cong fun x S1 => ?_
  cases x with
  | c i => rfl
  | e c x => rfl
  | d y => cases y <;> first | rfl | (show (if _ then _ else _ : R W).sat Q = _; rw [sat_ite]; rfl)
theorem s_orV : (dOrV a b e S).sat Q = (a e S).sat fun x S1 => (tbR x S1).sat fun c S1 => Br (c = true) (fun _ => Q (.d (.bl true)) S1) (fun _ => (b e S1).sat Q) := by
  unfold dOrV
  rw [sat_bind]
  refine sat_cong fun x S1 => ?_
  cases x with
  | c i => rfl
  | e c x => rfl
  | d y => cases y <;> first | rfl | (show (if _ then _ else _ : R W).sat Q = _; rw [sat_ite]; rfl)
theorem s_notV : (dNotV a e S).sat Q = (a e S).sat fun x S1 => (tbR x S1).sat fun c S1 => Q (.d (.bl (!c))) S1 := by
  unfold dNotV
  rw [sat_bind]
  refine sat_cong fun x S1 => ?_
  cases x with
  | c i => rfl
  | e c x => rfl
  | d y => cases y <;> first | rfl | (show (if _ then _ else _ : R W).sat Q = _; rw [sat_ite]; rfl)
theorem s_ifE : (dIf t a b e S).sat Q = (t e S).sat fun c S1 => Br (c = true) (fun _ => (a e S1).sat Q) (fun _ => (b e S1).sat Q) := by
  unfold dIf
  repeat' first | rfl | rw [sat_bind] | rw [sat_ne] | (refine sat_cong fun _ _ => ?_) | rw [sat_ite] | (refine br_cong ?_ ?_)
theorem s_chain {g h : W → W → Sto → R W} {d : DE} : (dChain g h a b d e S).sat Q = (a e S).sat fun x S1 => (b e S1).sat fun y S2 => (g x y S2).sat fun z S3 => (tbR z S3).sat fun k S3 => Br (k = true) (fun _ => (d e S3).sat fun u S4 => (h y u S4).sat Q) (fun _ => Q (.d (.bl false)) S3) := by
  unfold dChain
  rw [sat_bind]
  refine sat_cong fun x S1 => ?_
  rw [sat_bind]
  refine sat_cong fun y2 S2 => ?_
  rw [sat_bind, sat_ne]
  refine sat_cong fun z S3 => ?_
  cases z with
  | c i => rfl
  | e c x => rfl
  | d y =>
    cases y with
    | bl k =>
      show (if k = true then ((d e S3).bind fun u S4 => (h y2 u S4).ne) else R.ok (.d (.bl false)) S3).sat Q = Br (k = true) (fun _ => (d e S3).sat fun u S4 => (h y2 u S4).sat Q) (fun _ => Q (.d (.bl false)) S3)
      rw [sat_ite]
      refine br_cong ?_ rfl
      repeat' first | rfl | rw [sat_bind] | rw [sat_ne] | (refine sat_cong fun _ _ => ?_) | rw [sat_ite] | (refine br_cong ?_ ?_)
    | _ => rfl
theorem s_B {g : List W → Sto → R W} : (dB g r e S).sat Q = (r e S).sat fun ws S1 => (g ws S1).sat Q := by
  unfold dB
  repeat' first | rfl | rw [sat_bind] | rw [sat_ne] | (refine sat_cong fun _ _ => ?_) | rw [sat_ite] | (refine br_cong ?_ ?_)
theorem s_isT {X : Ty} : (dIsT X a e S).sat Q = (a e S).sat fun x S1 => (isTR X x S1).sat Q := by
  unfold dIsT
  repeat' first | rfl | rw [sat_bind] | rw [sat_ne] | (refine sat_cong fun _ _ => ?_) | rw [sat_ite] | (refine br_cong ?_ ?_)
theorem s_isC {sub : Nat → Nat → Bool} : (dIsC sub c a e S).sat Q = (a e S).sat fun x S1 => (isCR sub c x S1).sat Q := by
  unfold dIsC
  repeat' first | rfl | rw [sat_bind] | rw [sat_ne] | (refine sat_cong fun _ _ => ?_) | rw [sat_ite] | (refine br_cong ?_ ?_)
theorem s_none : (oNone e S).sat QO = QO none S := rfl
theorem s_some : (oSome a e S).sat QO = (a e S).sat fun x S1 => (someR x S1).sat QO := by
  unfold oSome
  repeat' first | rfl | rw [sat_bind] | rw [sat_ne] | (refine sat_cong fun _ _ => ?_) | rw [sat_ite] | (refine br_cong ?_ ?_)
theorem s_sl {l h : DO} : (dSl a l h e S).sat Q = (a e S).sat fun x S1 => (l e S1).sat fun y S2 => (h e S2).sat fun z S3 => (slc x y z S3).sat Q := by
  unfold dSl
  repeat' first | rfl | rw [sat_bind] | rw [sat_ne] | (refine sat_cong fun _ _ => ?_) | rw [sat_ite] | (refine br_cong ?_ ?_)
theorem s_app : (dApp o a e S).sat Q = (o e S).sat fun x S1 => Br (isLc x S1 = true) (fun _ => (a e S1).sat fun y S2 => ofO' (app x y S2) fun S3 => Q (.d .non) S3) (fun _ => False) := by
  unfold dApp
  repeat' first | rfl | rw [sat_bind] | rw [sat_ne] | (refine sat_cong fun _ _ => ?_) | rw [sat_ite] | (refine br_cong ?_ ?_)
  rename_i y S2
  unfold ofO'
  cases app _ y S2 <;> rfl
theorem s_any : (iAny a e S).sat QI = (a e S).sat fun x S1 => (itR x S1).sat QI := by
  unfold iAny
  repeat' first | rfl | rw [sat_bind] | rw [sat_ne] | (refine sat_cong fun _ _ => ?_) | rw [sat_ite] | (refine br_cong ?_ ?_)
theorem s_r1 : (iRange1 a e S).sat QI = (a e S).sat fun x S1 => ofO' (rg1 x) fun p => QI p S1 := by
  unfold iRange1
  repeat' first | rfl | rw [sat_bind] | rw [sat_ne] | (refine sat_cong fun _ _ => ?_) | rw [sat_ite] | (refine br_cong ?_ ?_)
  generalize rg1 _ = o
  cases o <;> rfl
theorem s_r2 : (iRange2 a b e S).sat QI = (a e S).sat fun x S1 => (b e S1).sat fun y S2 => ofO' (rg2 x y) fun p => QI p S2 := by
  unfold iRange2
  repeat' first | rfl | rw [sat_bind] | rw [sat_ne] | (refine sat_cong fun _ _ => ?_) | rw [sat_ite] | (refine br_cong ?_ ?_)
  generalize rg2 _ _ = o
  cases o <;> rfl
theorem s_r3 : (iRange3 a b o e S).sat QI = (a e S).sat fun x S1 => (b e S1).sat fun y S2 => (o e S2).sat fun z S3 => ofO' (rg3 x y z) fun p => QI p S3 := by
  unfold iRange3
  repeat' first | rfl | rw [sat_bind] | rw [sat_ne] | (refine sat_cong fun _ _ => ?_) | rw [sat_ite] | (refine br_cong ?_ ?_)
  generalize rg3 _ _ _ = o
  cases o <;> rfl
theorem s_zip : (iZip a b e S).sat QI = (a e S).sat fun x S1 => (b e S1).sat fun y S2 => ofO' (zipO x y S2) fun p => QI p S2 := by
  unfold iZip
  repeat' first | rfl | rw [sat_bind] | rw [sat_ne] | (refine sat_cong fun _ _ => ?_) | rw [sat_ite] | (refine br_cong ?_ ?_)
  generalize zipO _ _ _ = o
  cases o <;> rfl
theorem s_rev : (iRev a e S).sat QI = (a e S).sat fun x S1 => ofO' (revO x S1) fun p => QI p S1 := by
  unfold iRev
  rw [sat_bind]
  refine sat_cong fun x S1 => ?_
  generalize revO _ _ = o
  cases o <;> rfl
theorem s_enum : (iEnum a e S).sat QI = (a e S).sat fun x S1 => ofO' (enumO x S1) fun p => QI p S1 := by
  unfold iEnum
  rw [sat_bind]
  refine sat_cong fun x S1 => ?_
  generalize enumO _ _ = o
  cases o <;> rfl
theorem s_bm {T : String} {g : W → List W → Sto → R W} : (dBM T g a r e S).sat Q = (a e S).sat fun x S1 => Br (tyS T x S1 = true) (fun _ => (r e S1).sat fun ws S2 => (g x ws S2).sat Q) (fun _ => False) := by
  unfold dBM
  repeat' first | rfl | rw [sat_bind] | rw [sat_ne] | (refine sat_cong fun _ _ => ?_) | rw [sat_ite] | (refine br_cong ?_ ?_)
theorem s_callO : (dCallO F c f n a r e S).sat Q = (a e S).sat fun x S1 => Br (isC c x S1 = true) (fun _ => (r e S1).sat fun ws S2 => Br (isC c x S2 = true ∧ ws.length + 1 = n) (fun _ => (F f (x :: ws) S2).sat Q) (fun _ => False)) (fun _ => False) := by
  unfold dCallO
  repeat' first | rfl | rw [sat_bind] | rw [sat_ne] | (refine sat_cong fun _ _ => ?_) | rw [sat_ite] | (refine br_cong ?_ ?_)
theorem s_prop : (dProp Fi c f a e S).sat Q = (a e S).sat fun x S1 => Br (isC c x S1 = true) (fun _ => (Fi f [x] S1).sat Q) (fun _ => False) := by
  unfold dProp
  rw [sat_bind]
  refine sat_cong fun x S1 => ?_
  rw [sat_ite, sat_ne]
  rfl
theorem s_yes : (tYesD e S).sat QT = QT true S := rfl
theorem q_expr : (sExpr a e S).sat N T B C = (a e S).sat fun _ S1 => N e S1 := by
  unfold sExpr
  repeat' first | rfl | rw [rs_bind] | (refine sat_cong fun _ _ => ?_) | rw [rs_ite] | (refine br_cong ?_ ?_)
theorem q_ret : (sRet a e S).sat N T B C = (a e S).sat T := by
  unfold sRet
  rw [rs_bind]
  rfl
theorem q_retN : (sRetN e S).sat N T B C = T (.d .non) S := rfl
theorem q_if : (sIf t s s' e S).sat N T B C = (t e S).sat fun c S1 => Br (c = true) (fun _ => (s e S1).sat N T B C) (fun _ => (s' e S1).sat N T B C) := by
  unfold sIf
  repeat' first | rfl | rw [rs_bind] | (refine sat_cong fun _ _ => ?_) | rw [rs_ite] | (refine br_cong ?_ ?_)
theorem q_break : (sBreak e S).sat N T B C = B e S := rfl
theorem q_cont : (sCont e S).sat N T B C = C e S := rfl
theorem q_never : (sNever e S).sat N T B C = False := rfl
theorem q_asg {g : GT} : (sAsg a g e S).sat N T B C = (a e S).sat fun w S1 => ofO' (g w e) fun e1 => N e1 S1 := by
  unfold sAsg
  rw [rs_bind]
  refine sat_cong fun x S1 => ?_
  generalize g x e = o
  cases o <;> rfl
theorem q_par : (sPar i j a b e S).sat N T B C = (a e S).sat fun x S1 => (b e S1).sat fun y S2 => N ((e.set i (some x)).set j (some y)) S2 := by
  unfold sPar
  repeat' first | rfl | rw [rs_bind] | (refine sat_cong fun _ _ => ?_) | rw [rs_ite] | (refine br_cong ?_ ?_)
theorem q_aug {g : W → W → Sto → R W} : (sAug i g a e S).sat N T B C = GV e[i]? (fun x S => (a e S).sat fun y S1 => (g x y S1).sat fun z S2 => N (e.set i (some z)) S2) S := by
  unfold sAug GV
  split
  · rename_i h
    simp only [h]
    rw [rs_bind]
    refine sat_cong fun _ _ => ?_
    rw [rs_bind, sat_ne]
    rfl
  · rename_i h
    first
    | rfl
    | (split
       · rename_i x hx; exact absurd hx (h x)
       · rfl)
theorem q_sub {v : DE} : (sSub v o a e S).sat N T B C = (v e S).sat fun x S1 => (o e S1).sat fun y S2 => (a e S2).sat fun z S3 => ofO' (setIx y z x S3) fun S4 => N e S4 := by
  unfold sSub
  repeat' first | rfl | rw [rs_bind] | (refine sat_cong fun _ _ => ?_) | rw [rs_ite] | (refine br_cong ?_ ?_)
  generalize setIx _ _ _ _ = o
  cases o <;> rfl
theorem q_fld {v : DE} : (sFldD c i v o e S).sat N T B C = (v e S).sat fun x S1 => (o e S1).sat fun y S2 => ofO' (setAt c i y x S2) fun S3 => N e S3 := by
  unfold sFldD
  repeat' first | rfl | rw [rs_bind] | (refine sat_cong fun _ _ => ?_) | rw [rs_ite] | (refine br_cong ?_ ?_)
  generalize setAt _ _ _ _ _ = o
  cases o <;> rfl
theorem q_frz : (sFrz i s e S).sat N T B C = GV e[i]? (fun x S => (frz x S).sat fun w S1 => (s (e.set i (some w)) S1).sat N T B C) S := by
  unfold sFrz GV
  split
  · rename_i h; simp only [h, rs_bind]
  · rename_i h
    first
    | rfl
    | (split
       · rename_i x hx; exact absurd hx (h x)
       · rfl)
theorem q_form {g : W → Sto → R W} : RS.sat ((fun e S => match e[i]? with
  | some (some w) => bindS (g w S) e fun w' S' => s (e.set i (some w')) S'
  | _ => RS.bad : DS) e S) N T B C = GV e[i]? (fun x S => (g x S).sat fun w S1 => (s (e.set i (some w)) S1).sat N T B C) S := by
  dsimp only
  unfold GV
  split
  · rename_i h; simp only [h, rs_bind]
  · rename_i h
    first
    | rfl
    | (split
       · rename_i x hx; exact absurd hx (h x)
       · rfl)
theorem q_frz2 : (sFrz2 i s e S).sat N T B C = GV e[i]? (fun x S => (frz2 x S).sat fun w S1 => (s (e.set i (some w)) S1).sat N T B C) S := q_form
theorem q_mv : (sMv i s e S).sat N T B C = GV e[i]? (fun x S => (mv x S).sat fun w S1 => (s (e.set i (some w)) S1).sat N T B C) S := q_form
theorem q_while {ks : List Nat} : (sWhile n ks t s e S).sat N T B C = (whileL ks t s n e S).sat N T B C := rfl
end
theorem atI_0 {α : Type} {x0 : α} {l : List α} : atI (x0 :: l) 0 = some x0 := by
  unfold atI ixN
  rw [if_pos (by omega), if_pos (by simp only [List.length_cons]; omega)]
  rfl
theorem atI_1 {α : Type} {x0 x1 : α} {l : List α} : atI (x0 :: x1 :: l) 1 = some x1 := by
  unfold atI ixN
  rw [if_pos (by omega), if_pos (by simp only [List.length_cons]; omega)]
  rfl
theorem atI_2 {α : Type} {x0 x1 x2 : α} {l : List α} : atI (x0 :: x1 :: x2 :: l) 2 = some x2 := by
  unfold atI ixN
  rw [if_pos (by omega), if_pos (by simp only [List.length_cons]; omega)]
  rfl
theorem atI_3 {α : Type} {x0 x1 x2 x3 : α} {l : List α} : atI (x0 :: x1 :: x2 :: x3 :: l) 3 = some x3 := by
  unfold atI ixN
  rw [if_pos (by omega), if_pos (by simp only [List.length_cons]; omega)]
  rfl
theorem atI_4 {α : Type} {x0 x1 x2 x3 x4 : α} {l : List α} : atI (x0 :: x1 :: x2 :: x3 :: x4 :: l) 4 = some x4 := by
  unfold atI ixN
  rw [if_pos (by omega), if_pos (by simp only [List.length_cons]; omega)]
  rfl
theorem atI_5 {α : Type} {x0 x1 x2 x3 x4 x5 : α} {l : List α} : atI (x0 :: x1 :: x2 :: x3 :: x4 :: x5 :: l) 5 = some x5 := by
  unfold atI ixN
  rw [if_pos (by omega), if_pos (by simp only [List.length_cons]; omega)]
  rfl
theorem atI_6 {α : Type} {x0 x1 x2 x3 x4 x5 x6 : α} {l : List α} : atI (x0 :: x1 :: x2 :: x3 :: x4 :: x5 :: x6 :: l) 6 = some x6 := by
  unfold atI ixN
  rw [if_pos (by omega), if_pos (by simp only [List.length_cons]; omega)]
  rfl
theorem atI_7 {α : Type} {x0 x1 x2 x3 x4 x5 x6 x7 : α} {l : List α} : atI (x0 :: x1 :: x2 :: x3 :: x4 :: x5 :: x6 :: x7 :: l) 7 = some x7 := by
  unfold atI ixN
  rw [if_pos (by omega), if_pos (by simp only [List.length_cons]; omega)]
  rfl
theorem ixN_0 {n : Nat} : ixN (n + 1) 0 = some 0 := by
  unfold ixN
  rw [if_pos (by omega), if_pos (by omega)]
  rfl
theorem ixN_1 {n : Nat} : ixN (n + 2) 1 = some 1 := by
  unfold ixN
  rw [if_pos (by omega), if_pos (by omega)]
  rfl
theorem ixN_2 {n : Nat} : ixN (n + 3) 2 = some 2 := by
  unfold ixN
  rw [if_pos (by omega), if_pos (by omega)]
  rfl
theorem ixN_3 {n : Nat} : ixN (n + 4) 3 = some 3 := by
  unfold ixN
  rw [if_pos (by omega), if_pos (by omega)]
  rfl
theorem ixN_4 {n : Nat} : ixN (n + 5) 4 = some 4 := by
  unfold ixN
  rw [if_pos (by omega), if_pos (by omega)]
  rfl
theorem ixN_5 {n : Nat} : ixN (n + 6) 5 = some 5 := by
  unfold ixN
  rw [if_pos (by omega), if_pos (by omega)]
  rfl
theorem ixN_6 {n : Nat} : ixN (n + 7) 6 = some 6 := by
  unfold ixN
  rw [if_pos (by omega), if_pos (by omega)]
  rfl
theorem ixN_7 {n : Nat} : ixN (n + 8) 7 = some 7 := by
  unfold ixN
  rw [if_pos (by omega), if_pos (by omega)]
  rfl
theorem rs_hold {a b : DS} {e : Env} {S : Sto} {N : Env → Sto → Prop} {T : W → Sto → Prop} {B C : Env → Sto → Prop} (h : ∀ b', b' = b → (a e S).sat (fun e1 S1 => (b' e1 S1).sat N T B C) T B C) : (sSeq a b e S).sat N T B C := by
  rw [rs_seq]
  exact h b rfl
theorem set_get {S : Sto} {i : Nat} {o : Ce} (hi : i < S.length) : (List.set S i o)[i]? = some o := by rw [List.getElem?_set]; simp [hi]
theorem set_same {S : Sto} {i : Nat} {o : Ce} (h : S[i]? = some o) : S.set i o = S := by
  refine List.ext_getElem? fun j => ?_
  rw [List.getElem?_set]
  split
  · rename_i e
    subst e
    rw [if_pos (List.getElem?_eq_some_iff.mp h).1, h]
  · rfl
/-! whole numbers -/
theorem smallI_of {i : Int} (h0 : -1000000000 ≤ i) (h1 : i ≤ 1000000000) : smallI i = true := by
  have e : (2 : Int) ^ 62 = 4611686018427387904 := by decide
  unfold smallI
  rw [e, Bool.and_eq_true, decide_eq_true_eq, decide_eq_true_eq]
  omega
theorem intBits_lt {i : Int} {m : Nat} (h : i.natAbs < 2 ^ m) : Builtin.Int.intBits i ≤ m := by
  unfold Builtin.Int.intBits
  split
  · exact Nat.zero_le _
  · rename_i hi
    have : i.natAbs ≠ 0 := by simpa using hi
    have := (Nat.log2_lt this).mpr h
    omega
theorem mulOk {i j : Int} {m n : Nat} (hi : i.natAbs < 2 ^ m) (hj : j.natAbs < 2 ^ n) (h : m + n ≤ 134217728) : IntMulOk i j := PyProof.Rows.mulOk_of_bits (intBits_lt hi) (intBits_lt hj) h
theorem mulOkL {i j : Int} (hi : i.natAbs < 2 ^ 64) : IntMulOk i j := IntMulOk.of_left (intBits_lt hi)
theorem mulOkR {i j : Int} (hj : j.natAbs < 2 ^ 64) : IntMulOk i j := IntMulOk.of_right (intBits_lt hj)
theorem divOk {i j : Int} (hj : j.natAbs < 2 ^ 8999) : Builtin.divisionGoesByPylong i j = false := by
  refine PyProof.noPylong_of_log2 ?_
  by_cases h : j.natAbs = 0
  · rw [h]
    decide
  · exact Nat.lt_trans ((Nat.log2_lt h).mpr hj) (by decide)
theorem divOkS {i j : Int} (hj : j.natAbs < 2 ^ 64) : Builtin.divisionGoesByPylong i j = false := divOk (Nat.lt_of_lt_of_le hj (Nat.pow_le_pow_right (by decide) (by decide)))
end Py

/-! Py16: own exceptions: raise, try. -/
namespace Py
open PySem PySem.Spec PyProof.Rows L2
/-! the exception at hand does not matter to data -/
def Inf.wex (I : Inf) (e : Option (Addr × Value × Option Addr)) : Inf := ⟨I.K, I.G, I.fl, I.X, e⟩
mutual
theorem Rep.wex {I : Inf} {H : Hp} {e : Option (Addr × Value × Option Addr)} : ∀ {d : D} {v : V}, Rep I H d v → Rep (I.wex e) H d v
  | _, _, .non => .non
  | _, _, .bl b => .bl b
  | _, _, .int i => .int i
  | _, _, .str x => .str x
  | _, _, .tup h r => .tup h (Reps.wex r)
  | _, _, .lst h r => .lst h (Reps.wex r)
  | _, _, .lsx h r => .lsx h (Reps.wex r)
  | _, _, .obj g h l r => .obj g h l (Reps.wex r)
  | _, _, .dK h r => .dK h (RepK.wex r)
  | _, _, .dT h r => .dT h (RepT.wex r)
theorem Reps.wex {I : Inf} {H : Hp} {e : Option (Addr × Value × Option Addr)} : ∀ {d : List D} {v : List V}, Reps I H d v → Reps (I.wex e) H d v
  | _, _, .nil => .nil
  | _, _, .cons r t => .cons (Rep.wex r) (Reps.wex t)
theorem RepK.wex {I : Inf} {H : Hp} {e : Option (Addr × Value × Option Addr)} : ∀ {d : List (Key × D)} {v : List (Key × V)}, RepK I H d v → RepK (I.wex e) H d v
  | _, _, .nil => .nil
  | _, _, .cons r t => .cons (Rep.wex r) (RepK.wex t)
theorem RepT.wex {I : Inf} {H : Hp} {e : Option (Addr × Value × Option Addr)} : ∀ {d : List (List Key × D)} {v : List (List Key × V)}, RepT I H d v → RepT (I.wex e) H d v
  | _, _, .nil => .nil
  | _, _, .cons r t => .cons (Rep.wex r) (RepT.wex t)
end
section
variable {I : Inf} {S : Sto} {M : List Addr} {H : Hp} {e : Option (Addr × Value × Option Addr)}
theorem RepW.wex (hi : I.ex = none) {w : W} {v : V} (r : RepW I M H w v) : RepW (I.wex e) M H w v := by
  cases w with
  | d x => exact Rep.wex r
  | c i => exact r
  | e c x =>
    obtain ⟨a, cls, dd, h, _⟩ := r
    rw [hi] at h
    cases h
theorem CeAt.wex (hi : I.ex = none) {ho : Option HO} {o : Ce} (r : CeAt I M H ho o) : CeAt (I.wex e) M H ho o := by
  cases o with
  | dead => trivial
  | lst ws => obtain ⟨vs, h, q⟩ := r; exact ⟨vs, h, Paired.mapP q fun _ _ z => z.wex hi⟩
  | ins c ws => obtain ⟨C, dx, vs, g, h, l, q⟩ := r; exact ⟨C, dx, vs, g, h, l, Paired.mapP q fun _ _ z => z.wex hi⟩
  | dK kvs => obtain ⟨us, h, q⟩ := r; exact ⟨us, h, Paired.mapP q fun _ _ z => ⟨z.1, z.2.wex hi⟩⟩
  | dT kvs => obtain ⟨us, h, q⟩ := r; exact ⟨us, h, Paired.mapP q fun _ _ z => ⟨z.1, z.2.wex hi⟩⟩
theorem Sim.wex (hi : I.ex = none) (s : Sim I S M H) : Sim (I.wex e) S M H := ⟨s.len, s.nd, s.trk, fun i o a e1 e2 => (s.cell i o a e1 e2).wex hi, s.low⟩
theorem RepX.wex {c : Nat} {x : D} {cls : Value} {dd : Option Addr} (r : RepX I H c x cls dd) : RepX (I.wex e) H c x cls dd := by
  obtain ⟨C, p, v, a1, a2, a3, a4, a5⟩ := r
  exact ⟨C, p, v, a1, a2, a3, a4, a5.wex⟩
theorem Slots.wex (hi : I.ex = none) {env : Env} {σ : L2.St} (s : Slots I M H env σ) : Slots (I.wex e) M H env σ := ⟨s.len, fun i w q => let ⟨v, a, b⟩ := s.get i w q; ⟨v, a, b.wex hi⟩⟩
end
/-! a list times an int -/
def opRep : W → W → Sto → R W
  | .d (.lst xs), .d (.int k), S => if smallI k = true ∧ xs.length * k.toNat ≤ sizeLine then .ok (.d (.lst (List.replicate k.toNat xs).flatten)) S else .bad
  | _, _, _ => .bad
theorem o_rep {X : Cx} {I : Inf} : OpR X (binaryOp .Mult) (rdOp ⟨X.K, I.G, I.fl, I.X, I.ex⟩ opRep) := by
  intro pins s σ H v u ov ou Q In rv ru hh
  obtain ⟨x, y, S, M, sim, rx, ry, p⟩ := hh
  unfold opRep at p
  split at p
  · split at p
    · rename_i xs k S' hc
      obtain ⟨h1, h2⟩ := hc
      cases rx with
      | lst h r =>
      cases ry
      obtain ⟨s1, s2⟩ := sm_of h1
      refine op_rep pins s σ H _ _ ov ou Q In rv ru ⟨_, _, _, rfl, rfl, mask_ex _ _ h, by omega, by omega, by rw [← r.len]; exact h2, fun a na => new_d p sim na fun H' ha ex => .lst ha ((r.rep _).mono ex)⟩
    · exact p.elim
  · exact p.elim
/-- a short text times a number -/
def opRepS : W → W → Sto → R W
  | .d (.str x), .d (.int k), S => if x.length ≤ 16 ∧ 0 ≤ k ∧ k ≤ 1000000 then .ok (.d (.str (Txt.mul x k))) S else .bad
  | _, _, _ => .bad
theorem o_repS {X : Cx} {I : Inf} : OpR X (binaryOp .Mult) (rdOp I opRepS) := by
  intro pins s σ H v u ov ou Q In rv ru hh
  obtain ⟨x, y, S, M, sim, rx, ry, p⟩ := hh
  unfold opRepS at p
  split at p
  · split at p
    · rename_i S' z k hc
      obtain ⟨h1, h2, h3⟩ := hc
      cases rx
      cases ry
      obtain ⟨t1, rfl⟩ := rv
      obtain ⟨t2, rfl⟩ := ru
      exact PySem.W.KXi.mul (n := z.length) rfl h1 (by omega) (by omega) fun t' k' _ _ => ⟨.str (Txt.mul z k), H, In.tok _, ⟨_, rfl⟩, p.here sim (.str _)⟩
    · exact p.elim
  · exact p.elim
theorem xc_super {K : PySem.W.Frag} {C D0 : Addr} {nm q : Str} {N : Addr} {bs bm : List Value} {sn : List Str} {sub : List Value} {ab : Bool} {col : Option Bool} {dd : Option Addr} {k0 k1 k2 k3 k5 : Option Value} {nid : String}
    (hl : K.lookup C = some (excClassObj nm q C N bs bm true sn sub ab col dd k0 k1 k2 k3 k5 nid)) (hm : ((Value.ref C :: bm).dropWhile (· != .ref D0)).drop 1 = PySem.HandSPX.veTail) : PySem.W.ks_superIn K C D0 "__init__" = some (some (.builtin "ValueError.__init__")) := by
  have hcl : PySem.W.clsIn K C = some { name := nm, bases := bs, mro := .ref C :: bm, ns := N, qualname := q, hasDict := true, slotNames := sn, subclasses := sub, abstract := ab, collection := col, hasDel := false } := by unfold PySem.W.clsIn; rw [hl] <;> rfl
  unfold PySem.W.ks_superIn
  rw [hcl]
  show PySem.W.alongIn K "__init__" (((Value.ref C :: bm).dropWhile (· != .ref D0)).drop 1) = _
  rw [hm]
  kernel_rfl
/-- two classes of exceptions -/
theorem xc_pair {K : PySem.W.Frag} {C C' : Addr} {b : Bool} {nm q : Str} {N : Addr} {bs bm : List Value} {sn : List Str} {sub : List Value} {ab : Bool} {col : Option Bool} {dd : Option Addr} {k0 k1 k2 k3 k5 : Option Value} {nid : String}
    (hl : K.lookup C' = some (excClassObj nm q C' N bs bm true sn sub ab col dd k0 k1 k2 k3 k5 nid)) (heb : PySem.W.subIn K (.ref C') (.type "BaseException") = some true) (hd : PySem.W.hasDictIn K C' = true) (ty : PySem.W.typeIn K (.ref C') = some (.type "type")) (hs : PySem.W.subIn K (.ref C) (.ref C') = some b) :
    PySem.W.kitOne K (.ref C) (.ref C') = some b ∧ PySem.W.exmOne K (.ref C) (.ref C') = some b := by
  refine ⟨?_, PySem.W.exm_ref heb hd ty hs⟩
  have hcl : PySem.W.clsIn K C' = some { name := nm, bases := bs, mro := .ref C' :: bm, ns := N, qualname := q, hasDict := true, slotNames := sn, subclasses := sub, abstract := ab, collection := col, hasDel := false } := by unfold PySem.W.clsIn; rw [hl] <;> rfl
  unfold PySem.W.kitOne
  split
  · rename_i h
    have e : C = C' := Value.ref.inj (beq_iff_eq.mp h)
    subst e
    have hs : PySem.W.mroIn K C (.ref C) = some b := hs
    unfold PySem.W.mroIn at hs
    rw [hcl] at hs
    have e : some (List.contains (Value.ref C :: bm) (Value.ref C)) = some b := hs
    rw [← e]
    simp
  · show (if ((PySem.W.clsIn K C').isSome && PySem.W.typeIn K (.ref C') == some (.type "type")) = true then PySem.W.subIn K (.ref C) (.ref C') else none) = some b
    rw [hcl, ty]
    exact hs
/-! raise -/
/-- C(), C's own __init__ keeping sp -/
def tMkO0 (C : Addr) (sp : Sp) (dvs : List V) : L2.St → Hp → XK → Prop := fun _ H1 Q => ∀ a, H1 a = none → sp (.ref a :: dvs) (upd H1 a (exo a C none))
  (fun v H2 => v = .non ∧ ∃ (d : Addr) (fs : List (Str × V)), H2 a = some (exo a C (some d)) ∧ H2 d = some (exd d fs) ∧ H1 d = none ∧ Q (.ref C) (some d) (upd (del H2 a) d (.xd fs))) (fun _ _ _ => False)
theorem pmk_oex0 {X : Cx} {CX : CXT} {x : Str} {C fI : Addr} {k : Nat} {fd : FuncData} {ps : List Str} {sp : Sp} {ds : List Value} {dvs : List V} {p pos : Pos} (T : OexC X.K C) (iC : PySem.W.findIn X.K (.ref C) "__init__" = some (some (.ref fI))) (tI : PySem.W.typeIn X.K (.ref fI) = some (.type "function"))
    (F1 : FnOk X.prog X.w X.K X.mg X.base CX k fI fd ps sp) (hr : Room (k + 1) X.A) (hb : Binds X.K fd ps ds) (hd : Vals dvs ds) (hx : Passes CX X (fun _ _ _ => False)) (hg : Gl X x) (hm : X.mg x = some (.ref C))
    (hdb : (x == ("__debug__" : Str)) = false := by decide) : PMk X (.Call (.Name x p) [] [] pos) (tMkO0 C sp dvs) := by
  intro pins s σ H1 Q I1 q1
  obtain ⟨nm, q, N, bs, bm, sn, sub, ab, col, dd, k0, k1, k2, k3, k5, hC, hbm⟩ := T.cls
  refine wpAny_Call_Name_kw (ld_glob I1 hg hm ?_ hdb)
  refine PySem.W.callWith_K0 I1.kIn T.kC ?_
  show wpAny _ _ (call (.ref C) []) _ _ _
  obtain ⟨hp, g, dr, tk, os⟩ := s
  have hsz : hp.objs.size ≤ hp.objs.size + 1 := Nat.le_succ _
  have hn : H1 (hp.objs.size + 1) = none := I1.hok.fresh hsz
  have hq := q1 (hp.objs.size + 1) hn
  have kk : ∀ b o, hp.get? b = some o → ((hp.push (PySem.W.kdv_tup [])).push (PySem.HandSPX.excO C hp.objs.size)).get? b = some o := fun b o e => Heap.get?_push_of_some _ (Heap.get?_push_of_some _ e)
  have hget : ((hp.push (PySem.W.kdv_tup [])).push (PySem.HandSPX.excO C hp.objs.size)).get? (hp.objs.size + 1) = some (PySem.HandSPX.excO C hp.objs.size) := by heap_get
  have I2 : Inv X pins σ (upd H1 (hp.objs.size + 1) (exo (hp.objs.size + 1) C none)) ⟨(hp.push (PySem.W.kdv_tup [])).push (PySem.HandSPX.excO C hp.objs.size), g, dr, tk, os⟩ :=
    I1.laid (t' := tk) (a := hp.objs.size + 1) (o := exo (hp.objs.size + 1) C none) (h' := (hp.push (PySem.W.kdv_tup [])).push (PySem.HandSPX.excO C hp.objs.size)) kk hsz (exo_ok hget)
  have r2 : Vals (V.ref (hp.objs.size + 1) :: dvs) (Value.ref (hp.objs.size + 1) :: ds) := .cons rfl hd
  have hl : (Value.ref (hp.objs.size + 1) :: ([] : List Value) ++ ds).length = ps.length := by
    have e := r2.length
    rw [F1.len _ _ _ _ hq] at e
    exact e.symm
  refine wpAny_call (PySem.HandSPX.call_own F.excBase_ValueError (fun Y => PySem.HandSPX.refsVE_contains Y bm hbm) (I1.kIn _ _ hC) (PySem.W.looks_findIn I1.kIn iC) (fun self => PySem.W.bind_fn I1.kIn self tI) (Nat.zero_le _)
    (codeAny_mono (F1.run _ X.stack _ _ ⟨[Value.ref (hp.objs.size + 1)], []⟩ (Value.ref (hp.objs.size + 1) :: ds) _ _ (fun _ _ _ => False) (hr.make C [] []) (I2.env0.make C [] []) (hb _ [Value.ref (hp.objs.size + 1)] I2.kIn hl) r2 hq) fun r s' hq' => ?_))
  cases r with
  | error er => exact hx pins σ _ _ er s' I2 hq'
  | ok fl =>
    cases fl with
    | ret u =>
      obtain ⟨v, H2, os2, bare2, un2, hok2, rv, ev, d, fs, ea, ed, hd1, q2⟩ := hq'
      subst ev
      obtain ⟨h2, g2, d2, t2, os'⟩ := s'
      exact ⟨rv, mk_end (raises_own T.exC T.tyC) I1 hsz kk un2 hok2 os2 bare2 ea ed hd1 q2⟩
    | next => exact False.elim hq'
    | brk => exact False.elim hq'
    | cont => exact False.elim hq'
def sRaise (c : Nat) (d : DE) : DS := fun e S => bindS (d e S) e fun x S1 => match x with
  | .d y => .exc c y e S1
  | _ => .bad
section
variable {J : Jn} {X : Cx} {w : WX} {F Fi : FnTab} {k : Nat} {a : Expr} {da : DE} {p pos pos' : Pos} {x : Str} {c : Nat}
/-- the exception that C(what) makes -/
theorem made_at {C D0 : Addr} {y : D} {v : V} {H : Hp} {S : Sto} {M : List Addr} {env : Env} {σ : L2.St} (h : J.X c = some C) (sim : Sim (J.inf X.K) S M H) (sl : Slots (J.inf X.K) M (mask S M H) env σ) (r : RepW (J.inf X.K) M (mask S M H) (.d y) v) (IC : IniC X.K C D0)
    (q : ∀ (cls : Value) (dd : Option Addr) (σ' : L2.St) (H' : Hp) (M' : List Addr), Le S M H S M' H' → Sim (J.inf X.K) S M' H' → Slots (J.inf X.K) M' (mask S M' H') env σ' → RepX (J.inf X.K) (mask S M' H') c y cls dd → w cls dd σ' H') :
    ∀ a, H a = none → spI X.K D0 (.ref a :: [v]) (upd H a (exo a C none)) (fun u H2 => u = .non ∧ ∃ (d : Addr) (fs : List (Str × V)), H2 a = some (exo a C (some d)) ∧ H2 d = some (exd d fs) ∧ H d = none ∧ w (.ref C) (some d) σ (upd (del H2 a) d (.xd fs))) (fun _ _ _ => False) := by
  intro a na
  refine ⟨a, C, v, rfl, upd_same, IC, fun dx hdx nd => ⟨rfl, dx, _, upd_same, by rw [upd_ne nd, upd_same], by rw [upd_ne nd] at hdx; exact hdx, ?_⟩⟩
  have hd : H dx = none := by rw [upd_ne nd] at hdx; exact hdx
  have e : upd (del (upd (upd (upd H a (exo a C none)) dx (exd dx [("what", v)])) a (exo a C (some dx))) a) dx (.xd [("what", v)]) = upd H dx (.xd [("what", v)]) := by
    funext b
    by_cases hb : b = dx
    · rw [hb, upd_same, upd_same]
    · rw [upd_ne hb, upd_ne hb]
      by_cases hba : b = a
      · rw [hba, del_same, na]
      · rw [del_ne hba, upd_ne hba, upd_ne hb, upd_ne hba]
  rw [e]
  obtain ⟨s', l'⟩ := sim.new (o := .xd [(("what" : Str), v)]) hd
  exact q _ _ σ _ M l' s' (sl.mono l') ⟨C, dx, v, h, rfl, rfl, mask_new sim hd, Rep.mono l'.ex r⟩
theorem ss_raise0 (t : Cok J X w F Fi k) (h : J.sg.xn x = some c) (hg : Gl X x := by rfl) (hdb : (x == ("__debug__" : Str)) = false := by decide) : PS X (.Raise (some (.Call (.Name x p) [] [] pos)) none pos') (rdS (J.inf X.K) w (sRaise c (dC .non))) := by
  obtain ⟨C, hC, hm⟩ := t.xn x c h
  obtain ⟨D0, fI, fd, IC, h1, h2, h3, h4, h5⟩ := (t.xc c C hC).ini
  refine PS_imp (ps_raise t.calm t.tk (pmk_oex0 (dvs := [.non]) IC.T h1 h2 h3 (t.room.mono (by omega)) h5 (.cons rfl .nil) passL hg hm hdb)) fun D σ H ⟨env, S, M, sim, sl, q⟩ => ?_
  exact made_at (J := J) hC sim sl (show RepW (J.inf X.K) M (mask S M H) (.d .non) .non from .non) IC q
theorem ss_raise1 (t : Cok J X w F Fi k) (h : J.sg.xn x = some c) (ha : PE X a (rdE (J.inf X.K) w da)) (hg : Gl X x := by rfl) (hdb : (x == ("__debug__" : Str)) = false := by decide)
    (he : starEach [a] X.env = (false, eval a X.env) :: starEach [] X.env := by rfl) (hpl : (backTo pos (starEach [] X.env)).any (·.1) = false := by rfl) : PS X (.Raise (some (.Call (.Name x p) [a] [] pos)) none pos') (rdS (J.inf X.K) w (sRaise c da)) := by
  obtain ⟨C, hC, hm⟩ := t.xn x c h
  obtain ⟨D0, fI, fd, IC, h1, h2, h3, h4, h5⟩ := (t.xc c C hC).ini
  refine PS_imp (ps_raise t.calm t.tk (pmk_oex (dvs := []) IC.T h1 h2 h3 (t.room.mono (by omega)) h4 .nil passL hg hm (pa_cons ha pa_nil he) hdb he hpl)) fun D σ H q => ?_
  refine rdS_one (f := fun e x S1 => match x with
  | .d y => .exc c y e S1
  | _ => .bad) q fun x v e S M H s sl r p => ?_
  split at p
  · exact ⟨by show 1 ≤ 1000; decide, made_at (J := J) hC s sl r IC p⟩
  · exact p.elim
end
/-! try -/
open Classical in
/-- try: b, except (the class k) as (slot i): h; h gives data back and leaves the store -/
noncomputable def sTry (b : DS) (xs : Nat → Nat → Bool) (k i : Nat) (h : DS) : DS := fun e S => match b e S with
  | .exc c x e' S' => if xs c k = true then (match h (e'.set i (some (.e c x))) S' with
    | .rt (.d y) S'' => if S'' = S' then .rt (.d y) S' else .bad
    | _ => .bad) else .exc c x e' S'
  | r => r
/-- in an except suite: the exception at hand -/
def Jn.at (J : Jn) (a : Addr) (cls : Value) (dd : Option Addr) : Jn := ⟨J.sg, J.G, J.X, some (a, cls, dd)⟩
theorem Rep.wex' {I : Inf} {H : Hp} {e : Option (Addr × Value × Option Addr)} {d : D} {v : V} (r : Rep (I.wex e) H d v) : Rep I H d v := Rep.wex (I := I.wex e) (e := I.ex) r
section
variable {I : Inf} {M : List Addr} {H H' : Hp} {e : Option (Addr × Value × Option Addr)}
theorem RepW.unwex (hi : I.ex = none) {w : W} {v v' : V} (r : RepW I M H w v) (r' : RepW (I.wex e) M H' w v') : RepW I M H' w v' := by
  cases w with
  | d x => exact Rep.wex' (I := I) r'
  | c i => exact r'
  | e c x =>
    obtain ⟨a, cls, dd, h, _⟩ := r
    rw [hi] at h
    cases h
theorem RepWs.unwex (hi : I.ex = none) : ∀ {ws : List W} {vs vs' : List V}, RepWs I M H ws vs → RepWs (I.wex e) M H' ws vs' → RepWs I M H' ws vs'
  | [], _, _, .nil, .nil => .nil
  | _ :: _, _, _, .cons r t, .cons r' t' => .cons (r.unwex hi r') (RepWs.unwex hi t t')
theorem pairK_unwex {κ : Type} (hi : I.ex = none) : ∀ {ws : List (κ × W)} {vs vs' : List (κ × V)}, Paired (fun (p : κ × W) (q : κ × V) => p.1 = q.1 ∧ RepW I M H p.2 q.2) ws vs → Paired (fun (p : κ × W) (q : κ × V) => p.1 = q.1 ∧ RepW (I.wex e) M H' p.2 q.2) ws vs' → Paired (fun (p : κ × W) (q : κ × V) => p.1 = q.1 ∧ RepW I M H' p.2 q.2) ws vs'
  | [], _, _, .nil, .nil => .nil
  | _ :: _, _, _, .cons r t, .cons r' t' => .cons ⟨r'.1, r.2.unwex hi r'.2⟩ (pairK_unwex hi t t')
theorem CeAt.unwex (hi : I.ex = none) {ho ho' : Option HO} {o : Ce} (r : CeAt I M H ho o) (r' : CeAt (I.wex e) M H' ho' o) : CeAt I M H' ho' o := by
  cases o with
  | dead => trivial
  | lst ws =>
    obtain ⟨vs, h, q⟩ := r
    obtain ⟨vs', h', q'⟩ := r'
    exact ⟨vs', h', q.unwex hi q'⟩
  | ins c ws =>
    obtain ⟨C, dx, vs, g, h, l, q⟩ := r
    obtain ⟨C', dx', vs', g', h', l', q'⟩ := r'
    exact ⟨C', dx', vs', g', h', l', q.unwex hi q'⟩
  | dK kvs =>
    obtain ⟨us, h, q⟩ := r
    obtain ⟨us', h', q'⟩ := r'
    exact ⟨us', h', pairK_unwex hi q q'⟩
  | dT kvs =>
    obtain ⟨us, h, q⟩ := r
    obtain ⟨us', h', q'⟩ := r'
    exact ⟨us', h', pairK_unwex hi q q'⟩
end
section
variable {J : Jn} {X : Cx} {w : WX} {F Fi : FnTab} {k : Nat} {body suite : List Stmt} {b0 : Stmt} {np pos pos' : Pos} {x n : Str} {kc i : Nat} {db dh : DS}
theorem Cok.tr (t : Cok J X w F Fi k) {W0 : WX} {pn : List (Addr × Obj)} {xe : Value → Shared → Prop} (tk : Takes (X.tr pn xe) W0) (po : PassesOwn (model X.prog X.w) X.A X.env xe) : Cok J (X.tr pn xe) W0 F Fi k := ⟨t.toTb, t.calm, t.nd, tk, po, t.room, t.dp, t.sa⟩
theorem ss_try (t : Cok J X w F Fi k) (hj : J.ex = none) (hs : X.stack = X.env :: X.outer) (hf : X.env.frame = some X.env.locals) (hi : X.N[i]? = some n) (hln : X.env.kindOf n = some .local) (hk : J.sg.xn x = some kc) (hg : Gl X x) (hdb : (x == ("__debug__" : Str)) = false)
    (hb : ∀ (W0 : WX) (pn : List (Addr × Obj)) (xe : Value → Shared → Prop), Cok J (X.tr pn xe) W0 F Fi k → PSs (X.tr pn xe) body (rdS (J.inf X.K) W0 db))
    (hsu : ∀ (a : Addr) (oe : Obj) (cls : Value) (d : Option Addr) (pn : List (Addr × Obj)), Zc cls d oe → (∃ vs, oe.data = .fields vs) → PSs (X.suite a ((a, oe) :: pn)) (b0 :: suite) (rdS ((J.at a cls d).inf X.K) w0 dh)) :
    PS X (.Try body [.ExceptHandler (some (.Name x np)) (some n) (b0 :: suite) pos'] [] [] pos) (rdS (J.inf X.K) w (sTry db J.sg.xs kc i dh)) := by
  obtain ⟨C, hC, hm⟩ := t.xn x kc hk
  refine PS_imp (ps_try_as (tb := fun W0 => rdS (J.inf X.K) W0 db) (ts := fun a cls d => rdS ((J.at a cls d).inf X.K) w0 dh) (Wout := w) hs hf t.nd hi hln (c := .ref C) ⟨hg, hdb, .inl hm⟩ t.tk (fun W0 pn xe tk po => hb W0 pn xe (t.tr tk po)) hsu) fun D σ H ⟨env, S, M, sim, sl, p⟩ => ⟨env, S, M, sim, sl, ?_⟩
  unfold sTry at p
  generalize db env S = r at p ⊢
  cases r with
  | nx e S1 => exact p
  | rt v S1 => exact p
  | bk e S1 => exact p
  | ct e S1 => exact p
  | bad => exact p
  | exc c y e1 S1 =>
    intro cls dd σ1 H1 M1 l1 s1 sl1 rx
    obtain ⟨Cc, px, vx, x1, x2, x3, x4, x5⟩ := id rx
    refine ⟨J.sg.xs c kc, by rw [x2]; exact (t.xs c kc Cc C x1 hC).2, fun hb1 a na => ?_, fun hb1 => ?_⟩
    · dsimp only at p
      rw [if_pos hb1] at p
      have hi0 : (J.inf X.K).ex = none := hj
      refine ⟨e1.set i (some (.e c y)), S1, M1, s1.wex hi0, (sl1.wex hi0).set (v := .ref a) (w := .e c y) ⟨a, cls, dd, rfl, rfl, rx.wex⟩, ?_⟩
      generalize dh (e1.set i (some (.e c y))) S1 = r2 at p ⊢
      cases r2 with
      | nx e S1 => exact p.elim
      | bk e S1 => exact p.elim
      | ct e S1 => exact p.elim
      | exc c x e S => exact p.elim
      | bad => exact p.elim
      | rt v S2 =>
        cases v with
        | c j => exact p.elim
        | e c x => exact p.elim
        | d z =>
          dsimp only at p
          split at p
          · rename_i hS
            subst hS
            intro v H2 M2 l2 s2 r2
            have pre : M1 = M2 := by
              obtain ⟨tl, rfl⟩ := l2.pre
              have h1 := s1.len
              have h2 := s2.len
              rw [List.length_append] at h2
              cases tl with
              | nil => rw [List.append_nil]
              | cons q tl => simp at h2; omega
            subst pre
            have ex : Ex (mask S2 M1 H1) (mask S2 M1 H2) := l2.ex
            have s3 : Sim (J.inf X.K) S2 M1 H2 := ⟨s1.len, s1.nd, s2.trk, fun j o b e1 e2 => ?_, s1.low⟩
            · exact p v H2 M1 (l1.trans ⟨List.prefix_refl _, ex⟩) s3 (Rep.wex' (I := J.inf X.K) r2)
            · have h1 := s1.cell j o b e1 e2
              have h2 := s2.cell j o b e1 e2
              exact CeAt.unwex (I := J.inf X.K) (e := some (a, cls, dd)) hi0 h1 h2
          · exact p.elim
    · dsimp only at p
      rw [if_neg (by rw [hb1]; decide)] at p
      exact p cls dd σ1 H1 M1 l1 s1 sl1 rx
end
/-! in the suite -/
def dIsE (xs : Nat → Nat → Bool) (kc i : Nat) : DE := fun e S => match e[i]? with
  | some (some (.e c _)) => .ok (.d (.bl (xs c kc))) S
  | _ => .bad
def dIsVE (i : Nat) : DE := fun e S => match e[i]? with
  | some (some (.e _ _)) => .ok (.d (.bl true)) S
  | _ => .bad
def dWh (i : Nat) : DE := fun e S => match e[i]? with
  | some (some (.e _ x)) => .ok (.d x) S
  | _ => .bad
/-- isinstance(e, c), e the exception that the suite holds, its dict in the heap -/
def rIsX (K : PySem.W.Frag) (D0 a : Addr) (d : Option Addr) : List V → Hp → VK → Prop := fun xs H Q => ∃ (c : V) (cv : Value) (b : Bool) (dx : Addr) (fs : List (Str × V)), xs = [.ref a, c] ∧ (∀ u, RelV c u → u = cv) ∧ PySem.W.kitOne K (.ref D0) cv = some b ∧ d = some dx ∧ H dx = some (.xd fs) ∧ Q (.bl b) H
theorem call_isX {X : Cx} {a D0 : Addr} {d : Option Addr} {oe : Obj} {pn : List (Addr × Obj)} (C : ExcC X.K D0) (hz : Zc (.ref D0) d oe) (hf : ∃ vs, oe.data = .fields vs) : CallR (X.suite a ((a, oe) :: pn)) (.builtin "isinstance") (rIsX X.K D0 a d) := by
  intro pins s σ H xs us Q I r h
  obtain ⟨c, cv, b, dx, fs, rfl, hcv, e, rfl, hd, q⟩ := h
  cases r with
  | cons rx rr =>
    cases rr with
    | cons rt rr =>
      cases rr
      cases rx
      have ec := hcv _ rt
      subst ec
      obtain ⟨hget, _⟩ := I.pin (a, oe) (List.mem_append.mpr (.inl List.mem_cons_self))
      obtain ⟨vs, hv⟩ := hf
      have hx : ObjOk X.prog X.w H s.heap dx (.xd fs) := I.hok dx _ hd
      obtain ⟨mA, hns, hr⟩ := hx
      obtain ⟨od, ho, hl⟩ := lookIn_ns hns
      have J : PySem.W.InstAt s.heap a oe D0 (some od) := ⟨hget, hz.1, by unfold PySem.W.notCls; rw [hv] <;> rfl, by rw [hz.2]; exact ho⟩
      obtain ⟨cdD, hcD, _⟩ := PySem.W.any_some C.hd
      exact PySem.W.kia_one (PySem.W.kitx_exc (od := some od) (by rw [hcD]; rfl) C.hg C.hk C.hs C.ha C.hn C.ht C.hm) I.kIn J e (fun z => nomatch z) fun tk => ⟨.bl b, H, I.kept (t' := tk) fun _ _ z => z, rfl, q⟩
section
variable {J : Jn} {X : Cx} {w : WX} {F Fi : FnTab} {k : Nat} {pos p pt pe : Pos} {xt n : Str} {kc i : Nat} {a : Addr} {oe : Obj} {cls : Value} {d : Option Addr} {pn : List (Addr × Obj)}
theorem e_at {H : Hp} {σ : L2.St} {env : Env} {S : Sto} {M : List Addr} {c : Nat} {y : Py.D} {K : PySem.W.Frag} (sl : Slots ((J.at a cls d).inf K) M (mask S M H) env σ) (e : env[i]? = some (some (.e c y))) : σ[i]? = some (some (.ref a)) ∧ RepX ((J.at a cls d).inf K) (mask S M H) c y cls d := by
  obtain ⟨v, e1, b, cls', dd', h1, rfl, h2⟩ := sl.get i _ e
  have h1 : some (a, cls, d) = some (b, cls', dd') := h1
  cases h1
  exact ⟨e1, h2⟩
theorem sx_isE (t : Cok J X w F Fi k) (hz : Zc cls d oe) (hf : ∃ vs, oe.data = .fields vs) (hk : J.sg.xn xt = some kc) (hb : J.sg.blt "isinstance" = true) (hN : X.N[i]? = some n := by rfl) (hv : Vis X.env.scope n := by first | exact Or.inl rfl | exact Or.inr (Or.inl rfl) | exact Or.inr (Or.inr rfl))
    (hg : Gl X "isinstance" := by rfl) (hg2 : Gl X xt := by rfl) (hn1 : (n == ("__debug__" : Str)) = false := by decide) (hn2 : (n == ("__classdict__" : Str)) = false := by decide) (hdb2 : (xt == ("__debug__" : Str)) = false := by decide)
    (he : starEach [.Name n pe, .Name xt pt] X.env = (false, eval (.Name n pe) X.env) :: starEach [.Name xt pt] X.env := by rfl) (hpl : (backTo pos (starEach [.Name xt pt] X.env)).any (·.1) = false := by rfl) :
    PE (X.suite a ((a, oe) :: pn)) (.Call (.Name "isinstance" p) [.Name n pe, .Name xt pt] [] pos) (rdE ((J.at a cls d).inf X.K) w0 (dIsE J.sg.xs kc i)) := by
  refine ⟨fun pins s σ H Q In ⟨env, S, M, sim, sl, q⟩ => ?_⟩
  unfold dIsE at q
  split at q
  · rename_i c y hc
    obtain ⟨e1, C, px, v, x1, x2, x3, x4, x5⟩ := e_at sl hc
    subst x2
    subst x3
    obtain ⟨C', hC', hm⟩ := t.xn xt kc hk
    refine (pe_callB (X := X.suite a ((a, oe) :: pn)) (call_isX (t.xc c C x1).E hz hf) hg (t.glb _ hb) (by decide +kernel) (pa_cons (pe_var (X := X.suite a ((a, oe) :: pn)) hN hv hn1 hn2) (pa_cons (pe_glob (X := X.suite a ((a, oe) :: pn)) (v := .ref C') hg2 hm rfl hdb2) pa_nil) he) (by decide) (by decide) he hpl).run pins s σ H Q In ?_
    exact ⟨.ref a, e1, .ref C', .ref C', _, px, _, rfl, fun u h => h, (t.xs c kc C C' x1 hC').1, rfl, mask_ex _ _ x4, q.here sim (.bl _)⟩
  · exact q.elim
theorem sx_isVE (t : Cok J X w F Fi k) (hz : Zc cls d oe) (hf : ∃ vs, oe.data = .fields vs) (hb : J.sg.blt "isinstance" = true) (hb2 : J.sg.blt "ValueError" = true) (hN : X.N[i]? = some n := by rfl) (hv : Vis X.env.scope n := by first | exact Or.inl rfl | exact Or.inr (Or.inl rfl) | exact Or.inr (Or.inr rfl))
    (hg : Gl X "isinstance" := by rfl) (hg2 : Gl X "ValueError" := by rfl) (hn1 : (n == ("__debug__" : Str)) = false := by decide) (hn2 : (n == ("__classdict__" : Str)) = false := by decide)
    (he : starEach [.Name n pe, .Name "ValueError" pt] X.env = (false, eval (.Name n pe) X.env) :: starEach [.Name "ValueError" pt] X.env := by rfl) (hpl : (backTo pos (starEach [.Name "ValueError" pt] X.env)).any (·.1) = false := by rfl) :
    PE (X.suite a ((a, oe) :: pn)) (.Call (.Name "isinstance" p) [.Name n pe, .Name "ValueError" pt] [] pos) (rdE ((J.at a cls d).inf X.K) w0 (dIsVE i)) := by
  refine ⟨fun pins s σ H Q In ⟨env, S, M, sim, sl, q⟩ => ?_⟩
  unfold dIsVE at q
  split at q
  · rename_i c y hc
    obtain ⟨e1, C, px, v, x1, x2, x3, x4, x5⟩ := e_at sl hc
    subst x2
    subst x3
    refine (pe_callB (X := X.suite a ((a, oe) :: pn)) (call_isX (t.xc c C x1).E hz hf) hg (t.glb _ hb) (by decide +kernel) (pa_cons (pe_var (X := X.suite a ((a, oe) :: pn)) hN hv hn1 hn2) (pa_cons (pe_bltn (X := X.suite a ((a, oe) :: pn)) (v := .ty "ValueError") (u := .type "ValueError") hg2 (t.glb _ hb2) (by decide +kernel) rfl) pa_nil) he) (by decide) (by decide) he hpl).run pins s σ H Q In ?_
    exact ⟨.ref a, e1, .ty "ValueError", .type "ValueError", true, px, _, rfl, fun u h => h, t.xv c C x1, rfl, mask_ex _ _ x4, q.here sim (.bl _)⟩
  · exact q.elim
theorem sx_what (t : Cok J X w F Fi k) (hz : Zc cls d oe) (hf : ∃ vs, oe.data = .fields vs) (hN : X.N[i]? = some n := by rfl) (hv : Vis X.env.scope n := by first | exact Or.inl rfl | exact Or.inr (Or.inl rfl) | exact Or.inr (Or.inr rfl)) (hn1 : (n == ("__debug__" : Str)) = false := by decide) (hn2 : (n == ("__classdict__" : Str)) = false := by decide)
    (hab : attributeBase (.Name n pe) "what" X.env (eval (.Name n pe) X.env) = eval (.Name n pe) X.env := by rfl) :
    PE (X.suite a ((a, oe) :: pn)) (.Attribute (.Name n pe) "what" pos) (rdE ((J.at a cls d).inf X.K) w0 (dWh i)) := by
  refine ⟨fun pins s σ H Q In ⟨env, S, M, sim, sl, q⟩ => ?_⟩
  unfold dWh at q
  split at q
  · rename_i c y hc
    obtain ⟨e1, C, px, v, x1, x2, x3, x4, x5⟩ := e_at sl hc
    subst x2
    subst x3
    obtain ⟨D0, fI, fd, IC, _⟩ := (t.xc c C x1).ini
    have E := (t.xc c C x1).E
    refine (pe_xf (X := X) (n := "what") (C := C) ⟨E.hg, E.hk, E.hs, E.hd⟩ IC.wh hz hf (pe_var (X := X.suite a ((a, oe) :: pn)) hN hv hn1 hn2) hab).run pins s σ H Q In ?_
    exact ⟨.ref a, e1, rfl, rfl, px, _, v, rfl, mask_ex _ _ x4, by simp [List.lookup], q.here sim (show RepW ((J.at a (.ref C) (some px)).inf X.K) M (mask S M H) (.d y) v from x5)⟩
  · exact q.elim
end
end Py

/-! Py17: texts and lists turned round. -/
namespace Py
open PySem PySem.Spec PyProof.Rows L2
def revS (z : Str) : Str := ⟨z.cps.toList.reverse.toArray⟩
theorem range_back (n : Nat) : (List.range n).map (fun k => n - 1 - k) = (List.range n).reverse := by
  refine List.ext_getElem (by simp) fun i h1 h2 => ?_
  simp
theorem pick_back (z : Str) : ((Builtin.Str.strSliceIndices none none (-1) z.length).filterMap (z.cps[·]?)).toArray = z.cps.toList.reverse.toArray := by
  rw [picked_rev, range_back]
  congr 1
  rw [List.filterMap_reverse]
  congr 1
  show (List.range z.cps.size).filterMap (z.cps[·]?) = _
  refine List.ext_getElem? fun i => ?_
  have : ∀ (l : List Nat), (List.range l.length).filterMap (fun i => l[i]?) = l := fun l => by
    induction l with
    | nil => rfl
    | cons x l ih =>
      rw [List.length_cons, List.range_succ_eq_map, List.filterMap_cons]
      simp only [List.getElem?_cons_zero, List.filterMap_map, Function.comp_def, List.getElem?_cons_succ]
      rw [ih]
  have h2 := this z.cps.toList
  simp only [Array.getElem?_toList] at h2
  rw [show z.cps.toList.length = z.cps.size by simp] at h2
  rw [h2]
section
variable {X : Cx} {I : Inf} {w : WX} {e : Expr} {de : DE} {k : Nat} {p1 p2 p3 pos : Pos}
def tBack (te : TE) : TE := fun σ H Q => te σ H fun x H1 => ∃ z, x = .str z ∧ z.length ≤ sizeLine ∧ Q (.str (revS z)) H1
theorem pe_back {te : TE} (ht : PE X e te) : PE X (.Subscript e (.Slice none none (some (.UnaryOp .USub (.Constant (.int 1) k p1) p2)) p3) pos) (tBack te) := by
  refine ⟨fun pn sh st hp post iv wt => ?_⟩
  refine Subscript_ (thn (ht.run pn sh st hp _ iv wt) fun val sh1 hh => ?_)
  obtain ⟨x, hp1, iv1, rel, z, ex, hz, hq⟩ := hh
  subst ex
  obtain ⟨tk, rfl⟩ := rel
  have neg1 : PO X (some (.UnaryOp .USub (.Constant (.int 1) k p1) p2)) (tPart (tUn (rU fun i => .int (-i)) (tC (.int 1)))) := po_some (pe_un un_neg pe_int)
  refine wpAny_Slice (thn (po_none.run pn sh1 st hp1 (fun o g => o = none ∧ g = hp1) iv1 ⟨rfl, rfl⟩) fun v1 sh2 h2 => ?_)
  obtain ⟨o1, g1, iv2, q1, e1, e2⟩ := h2
  subst e1 e2
  refine thn (po_none.run pn sh2 st g1 (fun o g => o = none ∧ g = g1) iv2 ⟨rfl, rfl⟩) fun v2 sh3 h3 => ?_
  obtain ⟨o2, g2, iv3, q2, e3, e4⟩ := h3
  subst e3 e4
  refine thn (neg1.run pn sh3 st g2 (fun o g => o = some (-1) ∧ g = g2) iv3 ⟨1, rfl, -1, rfl, rfl, rfl⟩) fun v3 sh4 h4 => ?_
  obtain ⟨o3, g3, iv4, q3, e5, e6⟩ := h4
  subst e5 e6
  obtain ⟨l, rfl, hl⟩ := IsPart.raw q1
  obtain ⟨u, rfl, hu⟩ := IsPart.raw q2
  obtain ⟨s, rfl, hs⟩ := IsPart.raw q3
  have iv5 : Inv X pn st g3 { sh4 with heap := sh4.heap.push { cls := .type "slice", data := .fields #[partValue l, partValue u, partValue s] } } := iv4.kept (t' := sh4.toks) fun b ob q => Heap.get?_push_of_some _ q
  show wpAny (model X.prog X.w) X.A (subscriptTail e (.Slice none none (some (.UnaryOp .USub (.Constant (.int 1) k p1) p2)) p3) (.str z tk) (.ref sh4.heap.objs.size)) (EP X pn st post) X.xe _
  refine tail_any (ops := [.ref sh4.heap.objs.size, .str z tk]) (typeIs_str _ z tk) F.slot_str_getitem.lookup ?_ (by with_unfolding_all rfl)
  have l0 : l = none := by
    cases l with
    | none => rfl
    | some a => cases hl
  have u0 : u = none := by
    cases u with
    | none => rfl
    | some a => cases hu
  subst l0 u0
  obtain ⟨⟨si, stk⟩, rfl⟩ : ∃ a, s = some a := by
    cases s with
    | none => cases hs
    | some a => exact ⟨a, rfl⟩
  obtain rfl : si = -1 := by simpa using hs
  refine wpAny_getItem_str_slice (l := none) (u := none) (st := some (-1, stk)) ⟨_, Heap.get?_push_size _ rfl, rfl, rfl⟩ (by rfl) ?_
  have c : ¬ ((((some ((-1 : Int), stk)).map (·.1)).getD 1 == 1 && (slicePicked z none none (some (-1, stk))).length == z.length) = true) := by
    rw [show (((some ((-1 : Int), stk)).map (·.1)).getD 1 == 1) = false from rfl, Bool.false_and]
    exact Bool.false_ne_true
  unfold sliceMade
  rw [if_neg c]
  have hr : (⟨((slicePicked z none none (some (-1, stk))).filterMap (z.cps[·]?)).toArray⟩ : Str) = revS z := congrArg Str.mk (pick_back z)
  rw [hr]
  have hlen : (revS z).length ≤ sizeLine := by
    show (z.cps.toList.reverse.toArray).size ≤ _
    rw [List.size_toArray, List.length_reverse]
    show z.cps.toList.length ≤ _
    rw [show z.cps.toList.length = z.cps.size by simp]
    exact hz
  exact ⟨hlen, .str _, g3, iv5.tok _, ⟨_, rfl⟩, hq⟩
def gBack : W → Sto → R W
  | .d (.str z), S => if z.length ≤ sizeLine then .ok (.d (.str (revS z))) S else .bad
  | _, _ => .bad
def gBackL : W → Sto → R W
  | .d (.lst xs), S => .ok (.d (.lst xs.reverse)) S
  | .d (.lsx xs), S => .ok (.d (.lst xs.reverse)) S
  | _, _ => .bad
@[simp] def dBack (da : DE) : DE := fun e S => (da e S).bind gBack
@[simp] def dBackL (da : DE) : DE := fun e S => (da e S).bind gBackL
theorem sx_back (he : PE X e (rdE I w de)) : PE X (.Subscript e (.Slice none none (some (.UnaryOp .USub (.Constant (.int 1) k p1) p2)) p3) pos) (rdE I w (dBack de)) :=
  PE_imp (pe_back he) fun σ H Q q => by
    obtain ⟨en, S, M, sim, sl, p⟩ := q
    refine ⟨en, S, M, sim, sl, (EndR.bind (rel1 := RepW I) p).imp fun v H1 ⟨x, S1, M1, l1, s1, r1, p1⟩ => ?_⟩
    unfold gBack at p1
    split at p1
    · split at p1
      · rename_i hz
        cases r1
        exact ⟨_, rfl, hz, p1.here s1 (.str _)⟩
      · exact p1.elim
    · exact p1.elim
theorem sx_backL {G : Nat → Option Addr} {fl : Nat → List Str} {XX : Nat → Option Addr} {ex : Option (Addr × Value × Option Addr)} (he : PE X e (rdE ⟨X.K, G, fl, XX, ex⟩ w de)) : PE X (.Subscript e (.Slice none none (some (.UnaryOp .USub (.Constant (.int 1) k p1) p2)) p3) pos) (rdE ⟨X.K, G, fl, XX, ex⟩ w (dBackL de)) :=
  PE_imp (pe_revL he) fun σ H Q q => by
    obtain ⟨en, S, M, sim, sl, p⟩ := q
    refine ⟨en, S, M, sim, sl, (EndR.bind (rel1 := RepW _) p).imp fun v H1 ⟨x, S1, M1, l1, s1, r1, p1⟩ => ?_⟩
    unfold gBackL at p1
    split at p1
    · cases r1 with
      | lst h r => exact ⟨_, _, rfl, .inl (.inl (mask_ex _ _ h)), fun a na => new_d p1 s1 na fun H' ha ex => .lst ha (r.reverse.mono ex)⟩
    · cases r1 with
      | lsx h r => exact ⟨_, _, rfl, ex_l mask_ex h, fun a na => new_d p1 s1 na fun H' ha ex => .lst ha (r.reverse.mono ex)⟩
    · exact p1.elim
end
section
variable {Q : W → Sto → Prop} {e : Env} {S : Sto} {a : DE}
theorem s_back : (dBack a e S).sat Q = (a e S).sat fun x S1 => (gBack x S1).sat Q := by
  unfold dBack
  rw [sat_bind]
theorem s_backL : (dBackL a e S).sat Q = (a e S).sat fun x S1 => (gBackL x S1).sat Q := by
  unfold dBackL
  rw [sat_bind]
end
end Py

/-! Py18: a list put together anew, as a cell. -/
namespace Py
open PySem PySem.Spec PyProof.Rows L2
def opAddC (x y : W) (S : Sto) : R W :=
  match lstOf x S, lstOf y S with
    | some xs, some ys => if xs.length + ys.length ≤ sizeLine then .ok (.c S.length) (S ++ [.lst ((xs ++ ys).map W.d)]) else .bad
    | _, _ => .bad
theorem o_addC {X : Cx} {I : Inf} : OpR X (binaryOp .Add) (rdOp ⟨X.K, I.G, I.fl, I.X, I.ex⟩ opAddC) := by
  intro pins s σ H v u ov ou Q In rv ru hh
  obtain ⟨x, y, S, M, sim, rx, ry, p⟩ := hh
  unfold opAddC at p
  split at p
  · rename_i xs ys e1 e2
    split at p
    · rename_i hl
      obtain ⟨a, vs, rfl, h1, r1⟩ := lstOf_at sim rx e1
      obtain ⟨b, us, rfl, h2, r2⟩ := lstOf_at sim ry e2
      have rr := reps_map (M := M) (r1.append r2)
      exact op_cat pins s σ H _ _ ov ou Q In rv ru ⟨a, b, vs, us, rfl, rfl, h1, h2, by rw [← r1.len, ← r2.len]; exact hl, fun q nq => new_c p sim nq (lows_of sim rr) ⟨_, rfl, rr⟩ (by intro z; cases z)⟩
    · exact p.elim
  · exact p.elim
end Py

/-! Py19: a number and a text, put in order. -/
namespace Py
open PySem PySem.Spec PyProof.Rows L2
def opLtP : W → W → Sto → R W
  | .d (.tup [.int i, .str a]), .d (.tup [.int j, .str b]), S => .ok (.d (.bl (if i = j then decide (a.cps.toList < b.cps.toList) else decide (i < j)))) S
  | _, _, _ => .bad
theorem op_ltP {X : Cx} (hu : X.A.units < cLine) : OpR X (compareOp .Lt) (fun x y H Q => ∃ (a b : Addr) (i j : Int) (z z2 : Str), x = .ref a ∧ y = .ref b ∧ SqT X.K H a [.int i, .str z] ∧ SqT X.K H b [.int j, .str z2] ∧ Q (.bl (if i = j then decide (z.cps.toList < z2.cps.toList) else decide (i < j))) H) := by
  intro pins s σ H x y v u Q I rx ry h
  obtain ⟨a, b, i, j, z, z2, rfl, rfl, ha, hb, q⟩ := h
  cases rx
  cases ry
  obtain ⟨its, r1, p1, _⟩ := I.tuple ha
  obtain ⟨its2, r2, p2, _⟩ := I.tuple hb
  cases r1 with
  | cons ra r1 =>
  cases r1 with
  | cons rb r1 =>
  cases r1
  cases r2 with
  | cons sa r2 =>
  cases r2 with
  | cons sb r2 =>
  cases r2
  obtain ⟨t1, rfl⟩ := ra
  obtain ⟨t2, rfl⟩ := rb
  obtain ⟨t3, rfl⟩ := sa
  obtain ⟨t4, rfl⟩ := sb
  have R := Ob.RcOp.tuples_lt (A := X.A) (s := s) (e := fun k => if k = 0 then i == j else z == z2) (r := fun k => if k = 0 then decide (i < j) else decide (z.cps.toList < z2.cps.toList)) p1 p2 hu (fun k h1 h2 => by
    match k, h1 with
    | 0, _ => exact SeqAt.EqAt.int_int _ _ _ _
    | 1, _ => exact SeqAt.EqAt.str_str _ _ _ _) (fun k h1 h2 _ => by
    match k, h1 with
    | 0, _ => exact Ob.RcOp.lt_int _ _ _ _
    | 1, _ => exact fun _ _ _ _ h => PyProof.Rows.lt_str h)
  refine R X.prog X.w X.xe (EP X pins σ Q) ⟨.bl _, H, I, rfl, ?_⟩
  have e : Ob.lexAt (fun k => if k = 0 then i == j else z == z2) (fun k => if k = 0 then decide (i < j) else decide (z.cps.toList < z2.cps.toList)) (decide (([Value.int i t1, Value.str z t2].toArray).size < ([Value.int j t3, Value.str z2 t4].toArray).size)) 0 (min ([Value.int i t1, Value.str z t2].toArray).size ([Value.int j t3, Value.str z2 t4].toArray).size) = if i = j then decide (z.cps.toList < z2.cps.toList) else decide (i < j) := by
    show Ob.lexAt _ _ false 0 2 = _
    rw [Ob.lexAt_succ, Ob.lexAt_succ, Ob.lexAt_zero]
    by_cases h1 : i = j
    · subst h1
      by_cases h2 : z = z2
      · subst h2
        simp [List.lt_irrefl]
      · simp [h2]
    · simp [h1]
  rw [e]
  exact q
theorem o_ltP {X : Cx} {I : Inf} (hu : X.A.units < cLine) : OpR X (compareOp .Lt) (rdOp ⟨X.K, I.G, I.fl, I.X, I.ex⟩ opLtP) := by
  intro pins s σ H v u ov ou Q In rv ru hh
  obtain ⟨x, y, S, M, sim, rx, ry, p⟩ := hh
  unfold opLtP at p
  split at p
  · cases rx with
    | tup h1 r1 =>
    cases ry with
    | tup h2 r2 =>
    cases r1 with
    | cons ra r1 =>
    cases ra
    cases r1 with
    | cons rb r1 =>
    cases rb
    cases r1
    cases r2 with
    | cons sa r2 =>
    cases sa
    cases r2 with
    | cons sb r2 =>
    cases sb
    cases r2
    exact op_ltP hu pins s σ H _ _ ov ou Q In rv ru ⟨_, _, _, _, _, _, rfl, rfl, ex_t mask_ex h1, ex_t mask_ex h2, p.here sim (.bl _)⟩
  · exact p.elim
/-! ### a comprehension of two clauses, set to a name; as a cell -/
noncomputable def dComp2C (own : List Nat) (g : GT) (i : DI) (t : DT) (d1 : DI) (g1 : GT) (t1 : DT) (el : DE) (k1 : List Nat) : DE := fun e S => (i e S).bind fun p S1 => (compL2 g t d1 g1 t1 el k1 p.2 (uns own e) p.1 S1).bind fun ws S2 => if ws.length ≤ 16777216 then .ok (.c S2.length) (S2 ++ [.lst ws]) else .bad
section
variable {J : Jn} {X : Cx} {I : Inf} {w : WX} {F Fi : FnTab} {k : Nat} {tg iter tg1 iter1 elt : Expr} {ifs ifs1 : List Expr} {el : DE} {ta t1 : DT} {pos spos py : Pos} {di d1 : DI} {g g1 : GT} {vs vs1 : List Nat} {scope : Scope} {own : List (Str × Nat)}
theorem ss_comp2 {i : Nat} {y : Str} (t : Cok J X w F Fi k) (hi : PI X tg iter (rdI I w di)) (hv : ∀ i ∈ vs, i ∈ own.map (·.2)) (hv1 : ∀ i ∈ vs1, i ∈ own.map (·.2)) (ok : BlkOk X.N X.env.scope scope own)
    (hg : ∀ (s : Shared) (H : Hp) (C : Addr) (cl : List (Str × Addr)) (fp : List Addr), PG (X.blk s H scope (compEnvC scope cl C X.env) fp) tg (rdG I g vs)) (ht : ∀ (s : Shared) (H : Hp) (C : Addr) (cl : List (Str × Addr)) (fp : List Addr), PTs (X.blk s H scope (compEnvC scope cl C X.env) fp) ifs (rdT I w0 ta))
    (hi1 : ∀ (s : Shared) (H : Hp) (C : Addr) (cl : List (Str × Addr)) (fp : List Addr), PI (X.blk s H scope (compEnvC scope cl C X.env) fp) tg1 iter1 (rdI I w0 d1))
    (hg1 : ∀ (s : Shared) (H : Hp) (C : Addr) (cl : List (Str × Addr)) (fp : List Addr), PG (X.blk s H scope (compEnvC scope cl C X.env) fp) tg1 (rdG I g1 vs1)) (ht1 : ∀ (s : Shared) (H : Hp) (C : Addr) (cl : List (Str × Addr)) (fp : List Addr), PTs (X.blk s H scope (compEnvC scope cl C X.env) fp) ifs1 (rdT I w0 t1))
    (he : ∀ (s : Shared) (H : Hp) (C : Addr) (cl : List (Str × Addr)) (fp : List Addr), PE (X.blk s H scope (compEnvC scope cl C X.env) fp) elt (rdE I w0 el))
    (hy : X.N[i]? = some y := by rfl) (hyl : X.env.scope.names.lookup y = some .local := by rfl)
    (hsw : swapsWith (.ListComp elt [⟨tg, iter, ifs, 0⟩, ⟨tg1, iter1, ifs1, 0⟩] scope pos) (some (.Name y py)) spos.line X.env = pure true := by exact sw_true rfl rfl rfl (by decide +kernel)) (hs : ∀ x, foldedSetIterable iter X.env x = pure x := by intro _; rfl) (hs1 : ∀ env x, foldedSetIterable iter1 env x = pure x := by intro _ _; rfl) :
    PS X (.Assign [.Name y py] (.ListComp elt [⟨tg, iter, ifs, 0⟩, ⟨tg1, iter1, ifs1, 0⟩] scope pos) spos) (rdS I w (sAsg (dComp2 (own.map (·.2)) g di ta d1 g1 t1 el vs1) (gNm i))) :=
  PS_imp (ps_setLc2 t.calm t.nd hy hyl hsw hi ok hv1 (fun s H C cl fp => PG_aside (hg s H C cl fp)) (fun s H C cl fp => PTs_aside (ht s H C cl fp)) (fun s H C cl fp => PI_aside (hi1 s H C cl fp)) (fun s H C cl fp => PG_aside (hg1 s H C cl fp)) (fun s H C cl fp => PTs_aside (ht1 s H C cl fp)) (fun s H C cl fp => PE_aside (he s H C cl fp)) hs hs1) fun D σ H q => by
    refine comp2_rd .plain hv ?_
    exact rdS_one (f := fun e x S1 => .nx (e.set i (some x)) S1) q fun x v e S M H s sl r p => p _ H M Le.refl s (sl.set r)
theorem ss_comp2C {i : Nat} {y : Str} (t : Cok J X w F Fi k) (hi : PI X tg iter (rdI I w di)) (hv : ∀ i ∈ vs, i ∈ own.map (·.2)) (hv1 : ∀ i ∈ vs1, i ∈ own.map (·.2)) (ok : BlkOk X.N X.env.scope scope own)
    (hg : ∀ (s : Shared) (H : Hp) (C : Addr) (cl : List (Str × Addr)) (fp : List Addr), PG (X.blk s H scope (compEnvC scope cl C X.env) fp) tg (rdG I g vs)) (ht : ∀ (s : Shared) (H : Hp) (C : Addr) (cl : List (Str × Addr)) (fp : List Addr), PTs (X.blk s H scope (compEnvC scope cl C X.env) fp) ifs (rdT I w0 ta))
    (hi1 : ∀ (s : Shared) (H : Hp) (C : Addr) (cl : List (Str × Addr)) (fp : List Addr), PI (X.blk s H scope (compEnvC scope cl C X.env) fp) tg1 iter1 (rdI I w0 d1))
    (hg1 : ∀ (s : Shared) (H : Hp) (C : Addr) (cl : List (Str × Addr)) (fp : List Addr), PG (X.blk s H scope (compEnvC scope cl C X.env) fp) tg1 (rdG I g1 vs1)) (ht1 : ∀ (s : Shared) (H : Hp) (C : Addr) (cl : List (Str × Addr)) (fp : List Addr), PTs (X.blk s H scope (compEnvC scope cl C X.env) fp) ifs1 (rdT I w0 t1))
    (he : ∀ (s : Shared) (H : Hp) (C : Addr) (cl : List (Str × Addr)) (fp : List Addr), PE (X.blk s H scope (compEnvC scope cl C X.env) fp) elt (rdE I w0 el))
    (hy : X.N[i]? = some y := by rfl) (hyl : X.env.scope.names.lookup y = some .local := by rfl)
    (hsw : swapsWith (.ListComp elt [⟨tg, iter, ifs, 0⟩, ⟨tg1, iter1, ifs1, 0⟩] scope pos) (some (.Name y py)) spos.line X.env = pure true := by exact sw_true rfl rfl rfl (by decide +kernel)) (hs : ∀ x, foldedSetIterable iter X.env x = pure x := by intro _; rfl) (hs1 : ∀ env x, foldedSetIterable iter1 env x = pure x := by intro _ _; rfl) :
    PS X (.Assign [.Name y py] (.ListComp elt [⟨tg, iter, ifs, 0⟩, ⟨tg1, iter1, ifs1, 0⟩] scope pos) spos) (rdS I w (sAsg (dComp2C (own.map (·.2)) g di ta d1 g1 t1 el vs1) (gNm i))) :=
  PS_imp (ps_setLc2 t.calm t.nd hy hyl hsw hi ok hv1 (fun s H C cl fp => PG_aside (hg s H C cl fp)) (fun s H C cl fp => PTs_aside (ht s H C cl fp)) (fun s H C cl fp => PI_aside (hi1 s H C cl fp)) (fun s H C cl fp => PG_aside (hg1 s H C cl fp)) (fun s H C cl fp => PTs_aside (ht1 s H C cl fp)) (fun s H C cl fp => PE_aside (he s H C cl fp)) hs hs1) fun D σ H q => by
    refine comp2_rd .cell hv ?_
    exact rdS_one (f := fun e x S1 => .nx (e.set i (some x)) S1) q fun x v e S M H s sl r p => p _ H M Le.refl s (sl.set r)
end
end Py

/-! Py20: sorted(xs, key=f), f a def of the program. -/
namespace SK
open PySem PySem.Calls PyProof.Rows PySem.W
def hush (h : Heap) (c : Addr) : Heap := h.update c fun o => { o with data := .freed }
theorem hush_at (h : Heap) (c : Addr) : (hush h c).get? c = none := by
  obtain ⟨objs, l⟩ := h
  unfold hush Heap.update Heap.get?
  simp only [Array.getElem?_modify]
  cases objs[c]? <;> rfl
theorem hush_ne (h : Heap) {c b : Addr} (hb : b ≠ c) : (hush h c).get? b = h.get? b := Heap.get?_update_ne _ _ _ _ hb
theorem hush_keeps (h : Heap) (a c : Addr) : KeepsBut a (hush h c) h := fun b o _ e => by
  by_cases hb : b = c
  · subst hb
    rw [hush_at] at e
    cases e
  · rw [hush_ne h hb] at e
    exact e
/-- all stands that is neither at a nor at c -/
def Kb2 (a c : Addr) (h h' : Heap) : Prop := ∀ b o, b ≠ a → b ≠ c → h.get? b = some o → h'.get? b = some o
theorem Kb2.of {a c : Addr} {h h' : Heap} (k : KeepsBut a (hush h c) h') : Kb2 a c h h' := fun b o ha hc e => k b o ha (by rw [hush_ne h hc]; exact e)
theorem each_get {α β : Type} {R : α → β → Prop} : ∀ {as : List α} {bs : List β}, EachIs R as bs → ∀ (i : Nat) (a : α) (b : β), as[i]? = some a → bs[i]? = some b → R a b
  | _, _, .nil, i, a, b, e, _ => by simp at e
  | _, _, .cons r t, 0, a, b, e, f => by simp at e f; subst e f; exact r
  | _, _, .cons r t, i + 1, a, b, e, f => each_get t i a b (by simpa using e) (by simpa using f)
section
variable {prog : Program} {w : World} {A : Around} {E : Value → Shared → Prop} {s : Shared} {a kS : Addr} {vs : List Value} {e1 : Nat} {P : PySem.Fin → Shared → Prop} {ks : List Int} {PI : Nat → Shared → Prop}
theorem all_ints : AllAlike (ks.map PyData.int) := fun d hd d' hd' => by
  obtain ⟨i, _, rfl⟩ := List.mem_map.mp hd
  obtain ⟨j, _, rfl⟩ := List.mem_map.mp hd'
  rfl
theorem ints_sort : Sortable (ks.map PyData.int) := .inr fun d hd => by
  obtain ⟨i, _, rfl⟩ := List.mem_map.mp hd
  exact ⟨(by intro z; cases z), (by intro xs z; cases z)⟩
theorem key_rest {f : Value} (hka : kS ≠ a) (nk : s.heap.get? kS = some (seqObj "list" #[] 0)) (na : s.heap.get? a = some (seqObj "list" #[] e1)) (hlen : ks.length = vs.length) (hZ : vs.length ≤ sizeLine) (hu : A.units + 1 < cLine) (p0 : PI 0 s)
    (pw : ∀ i s' h', PI i s' → Kb2 a kS s'.heap h' → PI i { s' with heap := h' })
    (turn : ∀ (i : Nat) (v : Value) (k : Int), vs[i]? = some v → ks[i]? = some k → ∀ s', PI i s' → (∃ o, s'.heap.get? a = some o) → (∃ o, s'.heap.get? kS = some o) → wpAny (model prog w) A (call f [v]) (fun u s2 => (∃ t, u = .int k t) ∧ PI (i + 1) s2 ∧ ∀ c o, (c = a ∨ c = kS) → s'.heap.get? c = some o → s2.heap.get? c = some o) (fun _ _ => False) s')
    (h : ∀ s' h' tk out c, PI vs.length s' → Kb2 a kS s'.heap h' → h'.get? a = some (seqObj "list" (List.toArray out) c) → KeyedOut false (ks.map PyData.int) vs out → P (.done (.ret .none)) { s' with heap := h', toks := tk }) :
    wpAny (model prog w) A (ksk_rest a f false vs.toArray e1 (.ref kS)) P E s := by
  unfold ksk_rest
  refine wpAny_bind (wpAny_rule ?_)
  first
    | rw [List.forIn_toArray]
    | (rw [← Array.forIn_toList]; simp only [List.toList_toArray])
  let G : Nat → Shared → Prop := fun i s' => ∃ kA e, PI i s' ∧ s'.heap.get? kS = some (seqObj "list" kA e) ∧ s'.heap.get? a = some (seqObj "list" #[] e1) ∧ EachIs (fun v k => ∃ t, v = Value.int k t) kA.toList (ks.take i)
  refine wpAny_bind (ksk_fold G vs 0 s ⟨#[], 0, p0, nk, na, by rw [List.take_zero]; exact EachIs.nil⟩ ?go ?fin)
  case go =>
    rintro j x s' hx ⟨kA, e, hp, nk', na', hk⟩
    simp only [Nat.zero_add] at hp hk ⊢
    have hj : j < vs.length := (List.getElem?_eq_some_iff.mp hx).1
    obtain ⟨k, hkj⟩ : ∃ k, ks[j]? = some k := ⟨_, List.getElem?_eq_getElem (by omega)⟩
    have hz : kA.size ≤ sizeLine := by
      have h1 := hk.length
      rw [Array.length_toList, List.length_take] at h1
      omega
    refine wpAny_bind (wpAny_attempt (wpAny_mono (turn j x k hx hkj s' hp ⟨_, na'⟩ ⟨_, nk'⟩) (fun v s2 hv => ?_) fun _ _ z => z.elim))
    obtain ⟨⟨t, rfl⟩, hp2, hc2⟩ := hv
    have nk2 := hc2 kS _ (.inr rfl) nk'
    have na2 := hc2 a _ (.inl rfl) na'
    try dsimp only
    refine wpAny_bind (listUpdate_at nk2 rfl ?_ hz (by rw [Array.size_push]; exact Nat.succ_le_succ hz))
    have sb := Heap.SameBut.update s2.heap kS (Obj.mapSeq (·.push (Value.int k t)))
    obtain ⟨c2, hc3⟩ : ∃ c2, (s2.heap.update kS (Obj.mapSeq (·.push (Value.int k t)))).get? kS = some (seqObj "list" (kA.push (Value.int k t)) c2) := ⟨_, get?_update_seq nk2 _⟩
    refine wpAny_pure ⟨rfl, kA.push (Value.int k t), c2, pw _ _ _ hp2 fun b o _ hb q => (sb.2 b hb).trans q, hc3, (sb.2 a hka.symm).trans na2, ?_⟩
    have ek : ks.take (j + 1) = ks.take j ++ [k] := by rw [List.take_add_one, hkj]; rfl
    have ea : (kA.push (Value.int k t)).toList = kA.toList ++ [Value.int k t] := by simp
    rw [ea, ek]
    exact each_snoc (R := fun v k => ∃ t, v = Value.int k t) ⟨t, rfl⟩ hk
  case fin =>
    rintro s' ⟨kA, e, hp, nk', na', hk⟩
    simp only [Nat.zero_add] at hp hk
    have e3 : ks.take vs.length = ks := List.take_of_length_le (by omega)
    rw [e3] at hk
    have hsz : kA.size = vs.length := by
      have h1 := hk.length
      rw [Array.length_toList] at h1
      omega
    have hr : EachIs (fun v k => ∃ as, Reads s'.heap v k as) kA.toList (ks.map PyData.int) := by
      refine each_map (R := fun v d => ∃ as, Reads s'.heap v d as) PyData.int (hk.mono fun v k q => ?_)
      obtain ⟨t, rfl⟩ := q
      exact ⟨[], .int k t⟩
    try dsimp only
    refine wpAny_bind (listItems_at nk' rfl ?_)
    refine keyH_end (κ := dataKind s'.heap (ks.map PyData.int)) (h₁ := hush s'.heap kS) (hush_keeps _ _ _) (hush_at _ _) nk' na' hka (SortsAt.data hr all_ints ints_sort fun d hd => ?_) hsz hZ fun h3 tk c k3 n3 => ?_
    · obtain ⟨i, _, rfl⟩ := List.mem_map.mp hd
      have : (PyData.int i).depth = 0 := by simp [PyData.depth]
      omega
    · exact h s' h3 tk _ c hp (Kb2.of k3) n3 ⟨s'.heap, kA.toList, all_ints, rfl, hr⟩
theorem sorted_key {l : Addr} {f : Addr} {PK : Addr → Addr → Nat → Shared → Prop} {Q : Value → Shared → Prop} (hl : s.heap.IsList l vs.toArray) (hlen : ks.length = vs.length) (hZ : vs.length ≤ sizeLine) (hu : A.units + 3 < cLine)
    (p0 : ∀ a kS h', s.heap.objs.size ≤ a → s.heap.objs.size ≤ kS → (∀ b o, s.heap.get? b = some o → h'.get? b = some o) → PK a kS 0 { s with heap := h' })
    (pw : ∀ a kS i s' h', PK a kS i s' → Kb2 a kS s'.heap h' → PK a kS i { s' with heap := h' })
    (turn : ∀ a kS (i : Nat) (v : Value) (k : Int), vs[i]? = some v → ks[i]? = some k → ∀ s', PK a kS i s' → (∃ o, s'.heap.get? a = some o) → (∃ o, s'.heap.get? kS = some o) →
      wpAny (model prog w) A.in1.in1 (call (.ref f) [v]) (fun u s2 => (∃ t, u = .int k t) ∧ PK a kS (i + 1) s2 ∧ ∀ c o, (c = a ∨ c = kS) → s'.heap.get? c = some o → s2.heap.get? c = some o) (fun _ _ => False) s')
    (h : ∀ a kS s' h' tk out c, PK a kS vs.length s' → Kb2 a kS s'.heap h' → h'.get? a = some (seqObj "list" (List.toArray out) c) → KeyedOut false (ks.map PyData.int) vs out → Q (.ref a) { s' with heap := h', toks := tk }) :
    wpAny (model prog w) A (call (.builtin "sorted") [.ref l] [(Str.ofString "key", .ref f)]) Q E s := by
  refine sorted_of_sort hl hZ (ksk_s1 _ _) (fun _ => ksk_l1 _ _) fun E' => ?_
  rw [ksk_t1]
  generalize hA : s.heap.objs.size + 1 = a0
  have hc : (copyHeap s.heap vs).get? a0 = some (seqObj "list" vs.toArray 0) := by rw [← hA]; exact copyHeap_at s.heap vs
  have hlt := Heap.lt_size hc
  have up : ∀ b o, s.heap.get? b = some o → b ≠ a0 := fun b o e => by
    rw [← hA]
    exact Nat.ne_of_lt (Nat.lt_succ_of_lt (Heap.lt_size e))
  unfold ksk_tree
  refine wpAny_bind (listItems_at hc rfl ?_)
  refine wpAny_bind (listUpdate_at hc rfl ?_ (by simpa using hZ) (Nat.zero_le _))
  obtain ⟨e1, ho1⟩ : ∃ e1, ((copyHeap s.heap vs).update a0 (Obj.mapSeq fun _ => (#[] : Array Value))).get? a0 = some (seqObj "list" #[] e1) := ⟨_, get?_update_seq hc fun _ => #[]⟩
  refine wpAny_bind (seqEpoch_at ho1 rfl ?_)
  refine wpAny_bind (wpAny_newTuple ?_ hZ)
  refine wpAny_bind (wpAny_newList ?_ (Nat.zero_le _))
  refine wpAny_holding ?_
  generalize hK : (((copyHeap s.heap vs).update a0 (Obj.mapSeq fun _ => (#[] : Array Value))).push (seqObj "tuple" vs.toArray 0)).objs.size = kS
  have hK2 : kS = (copyHeap s.heap vs).objs.size + 1 := by rw [← hK, size_push', Heap.size_update]
  have nk : ((((copyHeap s.heap vs).update a0 (Obj.mapSeq fun _ => (#[] : Array Value))).push (seqObj "tuple" vs.toArray 0)).push (seqObj "list" #[] 0)).get? kS = some (seqObj "list" #[] 0) := by
    rw [← hK]
    exact Heap.get?_push_size _ rfl
  have na : ((((copyHeap s.heap vs).update a0 (Obj.mapSeq fun _ => (#[] : Array Value))).push (seqObj "tuple" vs.toArray 0)).push (seqObj "list" #[] 0)).get? a0 = some (seqObj "list" #[] e1) :=
    Heap.get?_push_of_some _ (Heap.get?_push_of_some _ ho1)
  have kp : ∀ b o, s.heap.get? b = some o → ((((copyHeap s.heap vs).update a0 (Obj.mapSeq fun _ => (#[] : Array Value))).push (seqObj "tuple" vs.toArray 0)).push (seqObj "list" #[] 0)).get? b = some o := fun b o e =>
    Heap.get?_push_of_some _ (Heap.get?_push_of_some _ ((Heap.get?_update_ne _ _ _ _ (up b o e)).trans (copyHeap_old e)))
  have hsl : s.heap.objs.size ≤ a0 := by rw [← hA]; exact Nat.le_succ _
  have hka : kS ≠ a0 := by rw [hK2]; exact Nat.ne_of_gt (Nat.lt_succ_of_lt hlt)
  have hsk : s.heap.objs.size ≤ kS := by rw [hK2]; exact Nat.le_of_lt (Nat.lt_of_le_of_lt hsl (Nat.lt_succ_of_lt hlt))
  refine key_rest (s := { s with heap := ((((copyHeap s.heap vs).update a0 (Obj.mapSeq fun _ => (#[] : Array Value))).push (seqObj "tuple" vs.toArray 0)).push (seqObj "list" #[] 0)) }) (PI := PK a0 kS) hka nk na hlen hZ ?_ (p0 a0 kS _ hsl hsk kp) (pw a0 kS) (turn a0 kS) ?_
  · show A.units + 1 + 1 + 1 < cLine
    omega
  · intro s' h' tk out c hp hb hg ko
    exact ⟨rfl, h a0 kS s' h' tk out c hp hb hg ko⟩
end
end SK
namespace Py
open PySem PySem.Spec PyProof.Rows L2
def keysK (Fi : FnTab) (f : Nat) : List D → Sto → Option (List Int × Sto)
  | [], S => some ([], S)
  | x :: xs, S => match Fi f [.d x] S with
    | .ok (.d (.int i)) S' => match keysK Fi f xs S' with
      | some (ks, S2) => some (i :: ks, S2)
      | none => none
    | _ => none
def sortByK (xs : List D) (ks : List Int) : List D := ((xs.zip ks).mergeSort fun p q => decide (p.2 ≤ q.2)).map (·.1)
/-- sorted(x, key=f) -/
def sortK (Fi : FnTab) (f : Nat) (x : W) (S : Sto) : R W := match lsOf x S with
  | some ws => match plainL ws with
    | some xs => match keysK Fi f xs S with
      | some (ks, S') => if xs.length ≤ sizeLine then .ok (.d (.lst (sortByK xs ks))) S' else .bad
      | none => .bad
    | none => .bad
  | none => .bad
def dSortK (Fi : FnTab) (f : Nat) (a : DE) : DE := fun e S => (a e S).bind fun x S1 => (sortK Fi f x S1).ne
/-- the stores between the keys -/
def stK (Fi : FnTab) (f : Nat) : List D → Sto → Nat → Sto
  | x :: xs, S, i + 1 => match Fi f [.d x] S with
    | .ok _ S' => stK Fi f xs S' i
    | _ => S
  | _, S, _ => S
theorem stK_zero {Fi : FnTab} {f : Nat} {xs : List D} {S : Sto} : stK Fi f xs S 0 = S := by cases xs <;> rfl
theorem keysK_at {Fi : FnTab} {f : Nat} : ∀ {xs : List D} {S S' : Sto} {ks : List Int}, keysK Fi f xs S = some (ks, S') → ks.length = xs.length ∧ stK Fi f xs S xs.length = S' ∧
    ∀ i x, xs[i]? = some x → ∃ k, ks[i]? = some k ∧ Fi f [.d x] (stK Fi f xs S i) = .ok (.d (.int k)) (stK Fi f xs S (i + 1))
  | [], S, S', ks, h => by
    cases h
    exact ⟨rfl, rfl, fun i x e => by simp at e⟩
  | y :: ys, S, S', ks, h => by
    rw [keysK] at h
    split at h
    · rename_i k S1 e1
      split at h
      · rename_i ks2 S2 e2
        cases h
        obtain ⟨a, b, c⟩ := keysK_at e2
        refine ⟨by simp [a], ?_, ?_⟩
        · show (match Fi f [.d y] S with | .ok _ S' => stK Fi f ys S' ys.length | _ => S) = _
          rw [e1]
          exact b
        · rintro (_ | i) x e
          · cases e
            refine ⟨k, rfl, ?_⟩
            rw [stK_zero]
            show _ = R.ok _ (match Fi f [.d y] S with | .ok _ S' => stK Fi f ys S' 0 | _ => S)
            rw [e1]
            show _ = R.ok _ (stK Fi f ys S1 0)
            rw [stK_zero]
          · obtain ⟨k2, g1, g2⟩ := c i x e
            refine ⟨k2, g1, ?_⟩
            have hs : ∀ j, stK Fi f (y :: ys) S (j + 1) = stK Fi f ys S1 j := fun j => by
              show (match Fi f [.d y] S with | .ok _ S' => stK Fi f ys S' j | _ => S) = _
              rw [e1]
            rw [hs, hs]
            exact g2
      · cases h
    · cases h
theorem Inv_trackIn {X : Cx} {pins : List (Addr × Obj)} {σ : L2.St} {H : Hp} {s : Shared} {h' : Heap} {t' : Nat} {ch : List Addr} {T : Addr} {ob : HO} (I : Inv X pins σ H s) (k : ∀ b o, b ∉ ch → s.heap.get? b = some o → h'.get? b = some o) (hf : ∀ b ∈ ch, FpOk X pins H b) (hT : T ∈ ch)
    (new : ObjOk X.prog X.w (upd H T ob) h' T ob) : Inv X pins σ (upd H T ob) { s with heap := h', toks := t' } := by
  have hn : H T = none := (hf T hT).1
  have off : ∀ c u, H c = some u → c ∉ ch ∧ c ≠ T := fun c u e => by
    have hc : c ∉ ch := fun z => by
      have := (hf c z).1
      rw [e] at this
      cases this
    exact ⟨hc, fun z => hc (z ▸ hT)⟩
  have un : Un (frs X.stack) ch H (upd H T ob) s.heap h' :=
    { keep := fun b o e _ _ hc => k b o hc e
      slot := fun b o e _ _ hc => ⟨o.slots, k b o hc e⟩
      free := fun b o _ e hc => by
        have hb : b ≠ T := fun z => hc (by rw [z]; exact hT)
        rw [upd_ne hb]
        exact e
      there := fun b o e hc => ⟨o, k b o hc e⟩
      tups := fun b xs e => by rw [upd_ne (off b _ e).2]; exact e
      frzs := fun b o u e => by rw [upd_ne (off b _ e).2]; exact e
      tbls := fun b ps e => ⟨#[], by rw [upd_ne (off b _ e).2, e]; simp⟩ }
  refine I.call (g' := s.gens) (d' := s.drawn) un (fun b u e => ?_) I.bare fun b hb => ⟨(hf b hb).2.2.2.1, (hf b hb).2.1, (hf b hb).2.2.2.2.1, (hf b hb).2.2.2.2.2⟩
  by_cases hb : b = T
  · subst hb
    rw [upd_same] at e
    cases e
    exact new
  · rw [upd_ne hb] at e
    refine (I.hok b u e).stay (fun c v hc q => ?_) (fun c q => ?_) fun c xs q => ?_
    · refine k c v ?_ q
      rcases hc with z | z
      · rw [z]; exact (off b u e).1
      · exact (off c _ z).1
    · rw [upd_ne (off c _ q).2]; exact q
    · rw [upd_ne (off c _ q).2]; exact q
theorem FpOk_of {X : Cx} {pins : List (Addr × Obj)} {H H' : Hp} {b : Addr} (h : FpOk X pins H b) (n : H' b = none) : FpOk X pins H' b := ⟨n, h.2⟩
theorem each_zip {α β γ : Type} {R : α → β → Prop} {T : β → γ → Prop} {R' : α → β × γ → Prop} : ∀ {as : List α} {bs : List β} {cs : List γ}, bs.length = cs.length → Paired (fun b a => R a b) bs as → (∀ a b c, R a b → R' a (b, c)) → PySem.W.EachIs R' as (bs.zip cs)
  | _, _, [], e, .nil, _ => .nil
  | _, _, c :: cs, e, .cons r t, h => .cons (h _ _ _ r) (each_zip (T := T) (by simpa using e) t h)
  | _, _, [], e, .cons _ _, _ => by simp at e
  | _, _, _ :: _, e, .nil, _ => by simp at e
theorem each_split {I : Inf} {H : Hp} : ∀ {out : List Value} {bs : List ((D × V) × Int)}, PySem.W.EachIs (fun u b => RelV b.1.2 u ∧ Rep I H b.1.1 b.1.2) out bs → Vals (bs.map fun b => b.1.2) out ∧ Reps I H (bs.map fun b => b.1.1) (bs.map fun b => b.1.2)
  | _, _, .nil => ⟨.nil, .nil⟩
  | _, _, .cons r t => ⟨.cons r.1 (each_split t).1, .cons r.2 (each_split t).2⟩
theorem reps_zip {I : Inf} {H : Hp} {its : List Value} : ∀ {xs : List D} {vs : List V} {its : List Value}, Reps I H xs vs → Vals vs its → Paired (fun (b : D × V) a => RelV b.2 a ∧ Rep I H b.1 b.2) (xs.zip vs) its
  | _, _, _, .nil, .nil => .nil
  | _, _, _, .cons r t, .cons q u => .cons ⟨q, r⟩ (reps_zip (its := its) t u)
theorem zip3 {α β γ : Type} : ∀ {xs : List α} {vs : List β} {ks : List γ}, vs.length = xs.length → xs.zip ks = ((xs.zip vs).zip ks).map fun b => (b.1.1, b.2)
  | [], _, _, _ => by simp
  | _ :: _, [], _, e => by simp at e
  | _ :: _, _ :: _, [], _ => by simp
  | x :: xs, v :: vs, k :: ks, e => by
    rw [List.zip_cons_cons, List.zip_cons_cons, List.zip_cons_cons, List.map_cons, zip3 (xs := xs) (vs := vs) (ks := ks) (by simpa using e)]
theorem valsV : ∀ {vs : List V} {us : List Value} {i : Nat} {u : Value}, Vals vs us → us[i]? = some u → ∃ v, vs[i]? = some v ∧ RelV v u
  | _, _, _, _, .nil, e => by simp at e
  | _, _, 0, _, .cons r _, e => by simp at e; subst e; exact ⟨_, rfl, r⟩
  | _, _, i + 1, u, .cons _ t, e => by
    obtain ⟨v, h1, h2⟩ := valsV (i := i) (u := u) t (by simpa using e)
    exact ⟨v, by simpa using h1, h2⟩
section
variable {J : Jn} {X : Cx} {w : WX} {F Fi : FnTab} {k : Nat}
def rdSort (I : Inf) (Fi : FnTab) (f : Nat) (fa : Addr) : List V → List V → Hp → VK → Prop := fun vs zs H Q => zs = [.ref fa] ∧ ∃ (x : W) (v : V) (S : Sto) (M : List Addr), vs = [v] ∧ Sim I S M H ∧ RepW I M (mask S M H) x v ∧ EndR I S M H (RepW I) Q E0 (sortK Fi f x S)
theorem c_sortK (t : Cok J X w F Fi k) {f : Nat} {x : Str} {fa : Addr} (h : J.sg.nm f = some (x, 1)) (hx : X.mg x = some (.ref fa)) : CallRK X (.builtin "sorted") [Str.ofString "key"] (rdSort (J.inf X.K) Fi f fa) := by
  intro pins s σ H vs zs us ws Q In r rz hh
  obtain ⟨rfl, y, v, S, M, rfl, sim, rv, p⟩ := hh
  obtain ⟨w1, rfl, e1⟩ := vals1 rz
  obtain rfl : w1 = Value.ref fa := e1
  obtain ⟨u, rfl, ru⟩ := vals1 r
  unfold sortK at p
  split at p
  · rename_i wl hwl
    split at p
    · rename_i xs hxs
      split at p
      · rename_i ks S' hks
        split at p
        · rename_i hsz
          obtain ⟨a0, vl, rfl, hsq, hrw⟩ := lsOf_at sim rv hwl
          obtain rfl : u = Value.ref a0 := ru
          have hreps := plainL_reps hrw hxs
          obtain ⟨its, rvl, hil, hz⟩ := In.list hsq
          obtain ⟨k1, k2, k3⟩ := keysK_at hks
          have hl1 := hreps.len
          have hl2 := rvl.length
          obtain ⟨fa', fd, ps, g1, g3, g4⟩ := t.lowf f x 1 h
          rw [hx] at g1
          cases g1
          let PK : Addr → Addr → Nat → Shared → Prop := fun a kS i s' => ∃ (H' : Hp) (M' : List Addr), Inv X pins σ H' s' ∧ Le S M H (stK Fi f xs S i) M' H' ∧ Sim (J.inf X.K) (stK Fi f xs S i) M' H' ∧ FpOk X pins H' a ∧ FpOk X pins H' kS
          have hun : X.A.units + 3 < cLine := by
            have := t.room.un
            omega
          refine SK.sorted_key (PK := PK) (vs := its) (ks := ks) hil.isList (by rw [k1, hl1, hl2]) (by rw [← hl2]; exact hz) hun ?_ ?_ ?_ ?_
          · intro a kS h' ha hk kp
            refine ⟨H, M, In.kept (t' := s.toks) kp, ?_, ?_, In.fpOk ha (In.hok.fresh ha), In.fpOk hk (In.hok.fresh hk)⟩
            · rw [stK_zero]; exact Le.refl
            · rw [stK_zero]; exact sim
          · rintro a kS i s' h' ⟨H', M', I', l', sm', f1, f2⟩ kb
            refine ⟨H', M', I'.turnedL (t' := s'.toks) (ch := [a, kS]) (fun b o hb e => kb b o (fun z => hb (by simp [z])) (fun z => hb (by simp [z])) e) (fun b hb => ?_), l', sm', f1, f2⟩
            simp only [List.mem_cons, List.not_mem_nil, or_false] at hb
            rcases hb with rfl | rfl
            · exact f1
            · exact f2
          · rintro a kS i v kk hv hkk s' ⟨H', M', I', l', sm', f1, f2⟩ ⟨oa, ha⟩ ⟨ok, hk⟩
            obtain ⟨uV, hu1, hu2⟩ := valsV rvl hv
            obtain ⟨xi, hx1, hx2⟩ := hreps.getV hu1
            obtain ⟨kk', hk1, hk2⟩ := k3 i xi hx1
            have : kk' = kk := Option.some.inj (hk1.symm.trans hkk)
            subst this
            have hr : Room k X.A.in1.in1 := ⟨t.room.hd, by have := t.room.dp; show X.A.depth + 3 * k + 5 < _; omega, by have := t.room.un; show X.A.units + 1 + 1 + 16 * k + 200 < _; omega⟩
            have r2 : Vals [uV] [v] := .cons hu2 .nil
            have q3 : spOf (J.inf X.K) Fi f 1 [uV] H' (fun v2 H2 => ∃ M2, v2 = V.int kk' ∧ Le (stK Fi f xs S i) M' H' (stK Fi f xs S (i + 1)) M2 H2 ∧ Sim (J.inf X.K) (stK Fi f xs S (i + 1)) M2 H2) E0 := ⟨rfl, [.d xi], _, M', sm', .cons (hx2.mono l'.ex) .nil, by
              rw [hk2]
              intro v2 H2 M2 l2 s2 rv2
              cases rv2
              exact ⟨M2, rfl, l2, s2⟩⟩
            have hlp : [v].length = ps.length := by rw [← r2.length]; exact g3.len _ _ _ _ q3
            have hb := g4 s' [v] I'.kIn (by rw [List.append_nil]; exact hlp)
            rw [List.append_nil] at hb
            refine wpAny_call (codeAny_mono (g3.run X.A.in1.in1 X.stack s' H' ⟨[v], []⟩ _ _ _ E0 hr I'.env0.in1.in1 hb r2 q3) fun r s2 hq => ?_)
            cases r with
            | error e =>
              obtain ⟨_, _, _, _, _, _, _, _, _, _, _, _, z⟩ := hq
              exact z.elim
            | ok fl =>
              cases fl with
              | ret u =>
                obtain ⟨v2, H2, os, bare, un, hok, rv2, M2, rfl, l2, sm2⟩ := hq
                have nof : ∀ b, FpOk X pins H' b → b ∉ frs X.stack := fun b fb z => (List.mem_cons.mp (I'.stkSub b z)).elim fb.2.1 fb.2.2.1
                refine ⟨rv2, ⟨H2, M2, I'.call' os un hok bare (fun b z => absurd z (by simp)), l'.trans l2, sm2, FpOk_of f1 (un.free a oa ha f1.1 (by simp)), FpOk_of f2 (un.free kS ok hk f2.1 (by simp))⟩, ?_⟩
                intro c o hc e
                rcases hc with rfl | rfl
                · exact un.keep c o e f1.1 (nof c f1) (by simp)
                · exact un.keep c o e f2.1 (nof c f2) (by simp)
              | next => exact False.elim hq
              | brk => exact False.elim hq
              | cont => exact False.elim hq
          · rintro a kS s' h' tk out c ⟨H', M', I', l', sm', f1, f2⟩ kb hg ko
            have hlen1 : vl.length = xs.length := hl1.symm
            have hlen2 : ks.length = (xs.zip vl).length := by rw [List.length_zip, hlen1, Nat.min_self, k1]
            have each0 : PySem.W.EachIs (fun u (b : (D × V) × Int) => RelV b.1.2 u ∧ Rep (J.inf X.K) (mask S M H) b.1.1 b.1.2) its ((xs.zip vl).zip ks) :=
              each_zip (R := fun u (b : D × V) => RelV b.2 u ∧ Rep (J.inf X.K) (mask S M H) b.1 b.2) (T := fun _ _ => True) hlen2.symm (reps_zip (its := its) hreps rvl) fun a b c h => h
            have hmapk : ((xs.zip vl).zip ks).map (fun b => PyData.int b.2) = ks.map PyData.int := by
              have : ((xs.zip vl).zip ks).map (fun b => b.2) = ks := by
                rw [show (fun b : (D × V) × Int => b.2) = Prod.snd from rfl, List.map_snd_zip (by omega)]
              rw [← this, List.map_map]
              rw [this]
              rfl
            have ko2 := PySem.W.keyedOut_each (R := fun u (b : (D × V) × Int) => RelV b.1.2 u ∧ Rep (J.inf X.K) (mask S M H) b.1.1 b.1.2) (fun b => PyData.int b.2) (by rw [hmapk]; exact ko) each0
            rw [PySem.W.dataLe_int] at ko2
            obtain ⟨w1, w2⟩ := each_split ko2
            have hsort : sortByK xs ks = (((xs.zip vl).zip ks).mergeSort fun a b => decide (a.2 ≤ b.2)).map fun b => b.1.1 := by
              unfold sortByK
              have hz : xs.zip ks = ((xs.zip vl).zip ks).map fun b => (b.1.1, b.2) := zip3 hlen1
              rw [hz, ← List.map_mergeSort (r := fun a b : (D × V) × Int => decide (a.2 ≤ b.2)) (fun a _ b _ => rfl), List.map_map]
              rfl
            rw [← hsort] at w2
            generalize (((xs.zip vl).zip ks).mergeSort fun a b => decide (a.2 ≤ b.2)).map (fun b => b.1.2) = vs' at w1 w2
            have hvl : vs'.length ≤ sizeLine := by
              rw [← w2.len, hsort, List.length_map, List.length_mergeSort, List.length_zip, List.length_zip]
              omega
            have In3 := Inv_trackIn (t' := tk) (ob := HO.lst vs') I' (h' := h') (ch := [a, kS]) (T := a) (fun b o hb e => kb b o (fun z => hb (by simp [z])) (fun z => hb (by simp [z])) e) (fun b hb => by
              simp only [List.mem_cons, List.not_mem_nil, or_false] at hb
              rcases hb with rfl | rfl
              · exact f1
              · exact f2) (by simp) ⟨hvl, out, c, w1, hg⟩
            refine ⟨.ref a, _, In3, rfl, ?_⟩
            rw [show its.length = xs.length by rw [← hl2, hl1], k2] at l' sm'
            obtain ⟨sm3, l3⟩ := sm'.new (o := HO.lst vs') f1.1
            exact p (.ref a) _ M' (l'.trans l3) sm3 (.lst (mask_new sm' f1.1) (w2.mono ((l'.trans l3).ex)))
        · exact p.elim
      · exact p.elim
    · exact p.elim
  · exact p.elim
theorem sx_sortK {f : Nat} {x nx : Str} {a : Expr} {da : DE} {p p2 pos kp : Pos} (t : Cok J X w F Fi k) (h : J.sg.nm f = some (x, 1)) (hb : J.sg.blt "sorted" = true) (ha : PE X a (rdE (J.inf X.K) w da)) (hg : Gl X "sorted" := by rfl) (hgx : Gl X x := by rfl) (hd : (x == ("__debug__" : Str)) = false := by decide)
    (hs : starEach [a] X.env = (false, eval a X.env) :: starEach [] X.env := by rfl)
    (he : backTo pos (starEach [a] X.env) = (false, eval a X.env) :: backTo pos (starEach [] X.env) := by rfl) (hpl : (backTo pos (starEach [a] X.env)).any (·.1) = false := by rfl)
    (hall : (backToKw pos (keywordEach [⟨some nx, .Name x p2, kp⟩] X.env)).all (·.1.isSome) = true := by rfl) (hnone : (backToKw pos (keywordEach [⟨some nx, .Name x p2, kp⟩] X.env)).any (·.1.isNone) = false := by rfl)
    (hks : (backToKw pos (keywordEach [⟨some nx, .Name x p2, kp⟩] X.env)).filterMap (·.1) = [Str.ofString "key"] := by rfl) :
    PE X (.Call (.Name "sorted" p) [a] [⟨some nx, .Name x p2, kp⟩] pos) (rdE (J.inf X.K) w (dSortK Fi f da)) := by
  obtain ⟨fa, fd, ps, g1, g3, g4⟩ := t.lowf f x 1 h
  refine PE_imp (pe_callBK (c_sortK t h g1) hg (t.glb _ hb) bt_sorted (pa_cons ha pa_nil hs) (pk_cons (pe_glob hgx g1 (v := .ref fa) rfl hd) pk_nil) (by decide) (by decide) he hpl hall hnone hks) fun σ H Q q => ?_
  show rdE (J.inf X.K) w da σ H fun v H1 => rdSort (J.inf X.K) Fi f fa [v] [.ref fa] H1 Q
  exact rd_one (f := fun _ x S1 => (sortK Fi f x S1).ne) q fun y v e S M H s sl r p => ⟨rfl, y, v, S, M, rfl, s, r, p.ne⟩
end
end Py
/-! list(reversed(a list)) -/
namespace LRv
open PySem PySem.Spec PyProof.Rows
section
variable {prog : Program} {w : World} {A : Around} {E : Value → Shared → Prop} {s : Shared}
abbrev RevIt (xs : Array Value) : Nat → Value → Prop := fun i v => xs[xs.size - 1 - i]? = some v
theorem ext_rev {R : Result → Shared → Prop} {it l S : Addr} {xs : Array Value} {res : Value} {c₀ : Nat} (hh : A.handled = none) (hit : s.heap.IsRevIter it l ((xs.size : Int) - 1)) (hl : s.heap.IsList l xs) (n1 : l ≠ it) (n2 : S ≠ it) (n3 : S ≠ l) (hn : xs.size ≤ sizeLine)
    (hS : s.heap.get? S = some { cls := .type "list", data := .seq #[] c₀ })
    (hR : ∀ (h' : Heap) (tk : Nat) (acc : Array Value) (c' : Nat), (∀ b o, b ≠ it → b ≠ S → s.heap.get? b = some o → h'.get? b = some o) → h'.get? S = some { cls := .type "list", dict := none, data := .seq acc c', slots := #[] } →
      ItemsOf (RevIt xs) acc xs.size → R (.ok (.ret res)) { s with heap := h', toks := tk }) :
    wpAny (model prog w) A.in1 (Builtin.List.listExtendWith (.ref S) (.ref it) res)
      (fun fin s' => match fin with | .done f => R (.ok f) s' | .again c' => c'.quiet = true ∧ codeAny (model prog w) A c' R s') (fun e s' => R (.error e) s') s := by
  have W := (Walks.listRev (prog := prog) (w := w) (A := A.in1) hh it l n1 xs).toS
  have nm : S ∉ [it, l] := fun z => by
    simp only [List.mem_cons, List.not_mem_nil, or_false] at z
    exact z.elim n2 n3
  have hT : s.TypeIs (.ref it) "list_reverseiterator" := hit.typeIs
  have ns : Builtin.List.listSameRef (.ref S) (.ref it) = false := by
    simp [Builtin.List.listSameRef, n2]
  unfold Builtin.List.listExtendWith
  refine wpAny_bind (wpAny_typeOf hT ?_)
  have q1 : (Value.type "list_reverseiterator" == Value.type "list") = false := by decide
  have q2 : (Value.type "list_reverseiterator" == Value.type "tuple") = false := by decide
  simp only [ns, q1, q2, Bool.or_false, Bool.false_eq_true, if_false]
  refine wpAny_bind (wpAny_pyIter_revIter hit ?_)
  refine wpAny_bind (wpAny_holding ?_)
  unfold Builtin.List.listLengthHint
  refine wpAny_bind (wpAny_specialOf hT RT.nolen_lri ?_)
  show wpAny _ A.in1 (specialOf (Value.ref it) (Str.ofString "__length_hint__") >>= _) _ _ _
  refine wpAny_bind (wpAny_specialOf hT RT.hint_lri ?_)
  generalize hid : ("list_reverseiterator.__length_hint__" : String) = idh
  wp_delta
  rw [show splitId idh = some ("list_reverseiterator", "__length_hint__") from by subst hid; decide +kernel]
  subst hid
  refine wpAny_bind (wpAny_isInstance (b := true) hT (by rw [isSubtype_type]; kernel_rfl) ?_)
  refine wpAny_pure ?_
  rw [if_neg (by decide)]
  have e0 : (xs.size : Int) - 1 - ((0 : Nat) : Int) = (xs.size : Int) - 1 := by omega
  refine wpAny_pure ⟨plainId_quiet F.plain_extend_loop _, codeAny_extend_loopS W hn _ nm _ xs.size 0 _ _ _ rfl (Nat.zero_le _) ⟨Nat.zero_le _, by rw [e0]; exact hit, hl⟩ hS (ItemsOf.nil _) fun s' acc' c' hm hS' hacc => ?_⟩
  rw [Moved.eq_with hm]
  refine hR s'.heap s'.toks acc' c' (fun b o b1 b2 e => hm.heap b o (fun z => ?_) e) hS' hacc
  simp only [List.mem_cons, List.not_mem_nil, or_false] at z
  exact z.elim b2 b1
theorem init_rev {R : Result → Shared → Prop} {it l S : Addr} {xs : Array Value} (hh : A.handled = none) (hit : s.heap.IsRevIter it l ((xs.size : Int) - 1)) (hl : s.heap.IsList l xs) (n1 : l ≠ it) (n2 : S ≠ it) (n3 : S ≠ l) (hn : xs.size ≤ sizeLine)
    (hS : s.heap.get? S = some { cls := .type "list", data := .seq #[] })
    (hR : ∀ (h' : Heap) (tk : Nat) (acc : Array Value) (c' : Nat), (∀ b o, b ≠ it → b ≠ S → s.heap.get? b = some o → h'.get? b = some o) → h'.get? S = some { cls := .type "list", dict := none, data := .seq acc c', slots := #[] } →
      ItemsOf (RevIt xs) acc xs.size → R (.ok (.ret .none)) { s with heap := h', toks := tk }) :
    wpAny (model prog w) A.in1 (Builtin.«list.__init__» ⟨[.ref S, .ref it], []⟩)
      (fun fin s' => match fin with | .done f => R (.ok f) s' | .again c' => c'.quiet = true ∧ codeAny (model prog w) A c' R s') (fun e s' => R (.error e) s') s := by
  show wpAny _ _ (do let old ← Builtin.List.listItems (.ref S); Builtin.List.listUpdate (.ref S) (fun _ => #[]); letGo old.toList.reverse; Builtin.List.listExtendWith (.ref S) (.ref it) .none) _ _ s
  refine wpAny_bind ?_
  unfold Builtin.List.listItems
  refine wpAny_bind (wpAny_seqItems hS rfl (wpAny_pure ?_))
  show wpAny _ _ (updateSeq S (fun _ => #[]) >>= fun _ => letGo (#[] : Array Value).toList.reverse >>= fun _ => Builtin.List.listExtendWith (.ref S) (.ref it) .none) _ _ s
  refine wpAny_bind (wpAny_updateSeq hS rfl ?_)
  have oth : ∀ b o, b ≠ S → s.heap.get? b = some o → (s.heap.update S (Obj.mapSeq (fun _ => (#[] : Array Value)))).get? b = some o := fun b o hb e => by
    rw [Heap.get?_update_ne _ _ _ _ hb]
    exact e
  refine wpAny_bind (wpAny_letGo ?_)
  refine ext_rev (s := { s with heap := s.heap.update S (Obj.mapSeq (fun _ => (#[] : Array Value))) }) hh (hit.at fun o e => oth it o (Ne.symm n2) e) (hl.at fun o e => oth l o (Ne.symm n3) e) n1 n2 n3 hn (Heap.get?_update_self _ hS rfl) fun h' tk acc c' hk h3 h4 => ?_
  exact hR h' tk acc c' (fun b o b1 b2 e => hk b o b1 b2 (oth b o b2 e)) h3 h4
theorem call_list_rev {it l : Addr} {xs : Array Value} {Q : Value → Shared → Prop} (hh : A.handled = none) (hit : s.heap.IsRevIter it l ((xs.size : Int) - 1)) (hl : s.heap.IsList l xs) (n1 : l ≠ it) (hn : xs.size ≤ sizeLine)
    (hQ : ∀ (h' : Heap) (tk : Nat) (acc : Array Value) (c' : Nat), (∀ b o, b ≠ it → s.heap.get? b = some o → h'.get? b = some o) → h'.get? s.heap.objs.size = some { cls := .type "list", dict := none, data := .seq acc c', slots := #[] } → ItemsOf (RevIt xs) acc xs.size →
      Q (.ref s.heap.objs.size) { s with heap := h', toks := tk }) : wpAny (model prog w) A (call (.type "list") [.ref it]) Q E s := by
  obtain ⟨oi, hoi, _⟩ := id hit
  obtain ⟨ol, hol, _⟩ := id hl
  refine callType_codes (Q₁ := fun obj s₁ => obj = .ref s.heap.objs.size ∧ s₁ = { s with heap := s.heap.push { cls := .type "list", data := .seq #[] } }) F.called_list (F.typeCall_list_1 _) F.entry_list_init
    (code_list_new _ ⟨rfl, rfl⟩) fun obj s₁ h₁ => ?_
  obtain ⟨rfl, rfl⟩ := h₁
  have hS : (s.heap.push { cls := .type "list", data := .seq #[] }).get? s.heap.objs.size = some { cls := .type "list", data := .seq #[] } := Heap.get?_push_size _ rfl
  refine ⟨⟨_, hS, rfl⟩, F.args_list_init_2 _ _, init_rev (A := A.in1) (s := { s with heap := s.heap.push { cls := .type "list", data := .seq #[] } }) hh (hit.at fun o e => Heap.get?_push_of_some _ e) (hl.push _) n1 (Nat.ne_of_gt (Heap.lt_size hoi)) (Nat.ne_of_gt (Heap.lt_size hol)) hn hS fun h' tk acc c' hk h3 h4 => ?_⟩
  exact ⟨rfl, hQ h' tk acc c' (fun b o b1 e => hk b o b1 (Nat.ne_of_lt (Heap.lt_size e)) (Heap.get?_push_of_some _ e)) h3 h4⟩
end
end LRv
namespace Py
open PySem PySem.Spec PyProof.Rows L2
theorem items_rev {its : List Value} {acc : Array Value} (h : ItemsOf (LRv.RevIt its.toArray) acc its.toArray.size) : acc.toList = its.reverse := by
  have hz : its.toArray.size = its.length := List.size_toArray
  have hl : acc.toList.length = its.length := by rw [Array.length_toList, h.1, hz]
  refine List.ext_getElem? fun j => ?_
  by_cases hj : j < its.length
  · have e1 : acc.toList[j]? = some acc.toList[j] := List.getElem?_eq_getElem (by omega)
    have e2 : its.toArray[its.toArray.size - 1 - j]? = some acc.toList[j] := h.2 j _ (by rw [← Array.getElem?_toList]; exact e1)
    rw [e1, List.getElem?_reverse hj, ← e2, hz]
    simp
  · rw [List.getElem?_eq_none (by omega), List.getElem?_eq_none (by rw [List.length_reverse]; omega)]
def listRev (x : W) (S : Sto) : R W := match lsOf x S with
  | some ws => match plainL ws with
    | some xs => .ok (.d (.lst xs.reverse)) S
    | none => .bad
  | none => .bad
def dListRev (a : DE) : DE := fun e S => (a e S).bind fun x S1 => (listRev x S1).ne
section
variable {J : Jn} {X : Cx} {w : WX} {F Fi : FnTab} {k : Nat}
theorem sx_listRev {a : Expr} {da : DE} {p p2 pos pos2 : Pos} (t : Cok J X w F Fi k) (hb : J.sg.blt "list" = true) (hb2 : J.sg.blt "reversed" = true) (ha : PE X a (rdE (J.inf X.K) w da)) (hg : Gl X "list" := by rfl) (hg2 : Gl X "reversed" := by rfl)
    (hs : starEach [a] X.env = (false, eval a X.env) :: starEach [] X.env := by rfl)
    (hs2 : starEach [.Call (.Name "reversed" p2) [a] [] pos2] X.env = (false, eval (.Call (.Name "reversed" p2) [a] [] pos2) X.env) :: starEach [] X.env := by rfl) :
    PE X (.Call (.Name "list" p) [.Call (.Name "reversed" p2) [a] [] pos2] [] pos) (rdE (J.inf X.K) w (dListRev da)) := by
  refine ⟨fun pins s σ H Q I h => ?_⟩
  have h2 : rdE (J.inf X.K) w da σ H fun v H1 => ∃ (y : W) (S : Sto) (M : List Addr), Sim (J.inf X.K) S M H1 ∧ RepW (J.inf X.K) M (mask S M H1) y v ∧ EndR (J.inf X.K) S M H1 (RepW (J.inf X.K)) Q E0 (listRev y S) :=
    rd_one (f := fun _ x S1 => (listRev x S1).ne) h fun y v e S M H s sl r p => ⟨y, S, M, s, r, p.ne⟩
  refine Call_ (ld_blt I hg (t.glb _ hb) boot_list (callWith_type1 (args_cons (Call_ (ld_blt I hg2 (t.glb _ hb2) boot_reversed (callWith_type1 (args_cons (thn (ha.run pins s σ H _ I h2) fun u s1 ⟨v, H1, I1, r1, q1⟩ => args_nil ?_) hs) hs rfl))) hs2) hs2 rfl))
  obtain ⟨y, S, M, sim, rv, q⟩ := q1
  unfold listRev at q
  split at q
  · rename_i ws hws
    split at q
    · rename_i xs hxs
      obtain ⟨a0, vs, rfl, hsq, hrw⟩ := lsOf_at sim rv hws
      obtain rfl : u = Value.ref a0 := r1
      have hreps := plainL_reps hrw hxs
      obtain ⟨its, rvl, p', hz⟩ := I1.list hsq
      have hl := p'.isList
      obtain ⟨ol, hol, _⟩ := id hl
      have hne : a0 ≠ s1.heap.objs.size := Nat.ne_of_lt (Heap.lt_size hol)
      have hn : its.toArray.size ≤ sizeLine := by rw [List.size_toArray, ← rvl.length]; exact hz
      refine call_reversed_list hl (args_nil ?_)
      have k0 : ∀ b o, s1.heap.get? b = some o → (s1.heap.push (revObj a0 ((its.toArray.size : Int) - 1))).get? b = some o := fun b o e => Heap.get?_push_of_some _ e
      have I2 : Inv X pins σ H1 { s1 with heap := s1.heap.push (revObj a0 ((its.toArray.size : Int) - 1)) } := I1.kept (t' := s1.toks) k0
      have fp := I1.fpOk (H' := H1) (b := s1.heap.objs.size) (Nat.le_refl _) (I1.hok.fresh (Nat.le_refl _))
      refine LRv.call_list_rev (s := { s1 with heap := s1.heap.push (revObj a0 ((its.toArray.size : Int) - 1)) }) (I1.ok.hd t.calm) ⟨_, Heap.get?_push_size _ rfl, rfl, rfl⟩ (hl.push _) hne hn fun h' tk acc c' hk hd hi => ?_
      generalize hD : (s1.heap.push (revObj a0 ((its.toArray.size : Int) - 1))).objs.size = D at hd
      have hr := items_rev hi
      have hnew : s1.heap.objs.size ≤ D := by rw [← hD, size_push']; exact Nat.le_succ _
      have hDn : D ≠ s1.heap.objs.size := by rw [← hD, size_push']; exact Nat.ne_of_gt (Nat.lt_succ_self _)
      have hv : Vals vs.reverse acc.toList := by rw [hr]; exact rvl.reverse
      have hvl : vs.reverse.length ≤ sizeLine := by rw [List.length_reverse]; exact hz
      have fD := I2.fpOk (H' := H1) (b := D) (by rw [← hD]; exact Nat.le_refl _) (I1.hok.fresh hnew)
      have f0 : FpOk X pins H1 s1.heap.objs.size := fp
      have In3 := Inv_trackIn (t' := tk) (ob := HO.lst vs.reverse) I2 (h' := h') (ch := [D, s1.heap.objs.size]) (T := D) (fun b o hb e => hk b o (fun z => hb (by simp [z])) e) (fun b hb => by
        simp only [List.mem_cons, List.not_mem_nil, or_false] at hb
        rcases hb with rfl | rfl
        · exact fD
        · exact f0) (by simp) ⟨hvl, acc.toList, c', hv, by rw [Array.toArray_toList]; exact hd⟩
      refine ⟨.ref D, _, In3, rfl, ?_⟩
      obtain ⟨sm3, l3⟩ := sim.new (o := HO.lst vs.reverse) fD.1
      exact q (.ref D) _ M l3 sm3 (.lst (mask_new sim fD.1) (hreps.reverse.mono l3.ex))
    · exact q.elim
  · exact q.elim
theorem s_sortK {a : DE} {e : Env} {S : Sto} {Q : W → Sto → Prop} {f : Nat} : (dSortK Fi f a e S).sat Q = (a e S).sat fun x S1 => (sortK Fi f x S1).sat Q := by
  unfold dSortK
  rw [sat_bind]
  refine sat_cong fun x S1 => ?_
  rw [sat_ne]
theorem s_listRev {a : DE} {e : Env} {S : Sto} {Q : W → Sto → Prop} : (dListRev a e S).sat Q = (a e S).sat fun x S1 => (listRev x S1).sat Q := by
  unfold dListRev
  rw [sat_bind]
  refine sat_cong fun x S1 => ?_
  rw [sat_ne]
theorem keysK_map {S : Sto} {f : Nat} {key : D → Int} : ∀ {xs : List D}, (∀ x ∈ xs, Fi f [.d x] S = .ok (.d (.int (key x))) S) → keysK Fi f xs S = some (xs.map key, S)
  | [], _ => rfl
  | x :: xs, h => by
    rw [keysK, h x (by simp)]
    dsimp only
    rw [keysK_map fun y m => h y (by simp [m])]
    rfl
theorem sortByK_map {key : D → Int} (xs : List D) : sortByK xs (xs.map key) = xs.mergeSort fun x y => decide (key x ≤ key y) := by
  unfold sortByK
  have e : xs.zip (xs.map key) = xs.map fun x => (x, key x) := by
    induction xs with
    | nil => rfl
    | cons x xs ih => rw [List.map_cons, List.zip_cons_cons, ih, List.map_cons]
  rw [e, ← List.map_mergeSort (r := fun x y => decide (key x ≤ key y)) (fun _ _ _ _ => rfl), List.map_map]
  exact List.map_id _
/-- sorted by a key that is told -/
theorem sortK_sat {f : Nat} {xs : List D} {S : Sto} {Q : W → Sto → Prop} (key : D → Int) (h : ∀ x ∈ xs, Fi f [.d x] S = .ok (.d (.int (key x))) S) (hl : xs.length ≤ sizeLine) (hq : Q (.d (.lst (xs.mergeSort fun x y => decide (key x ≤ key y)))) S) : (sortK Fi f (.d (.lst xs)) S).sat Q := by
  unfold sortK
  dsimp only [lsOf]
  rw [plainL_map]
  dsimp only
  rw [keysK_map h]
  dsimp only
  rw [if_pos hl, sortByK_map]
  exact hq
end
end Py
/-! an instance given up -/
namespace Py
open PySem PySem.Spec PyProof.Rows L2
def frzI (c nf : Nat) : W → Sto → R W
  | .c i, S => match S[i]? with
    | some (.ins c' ws) => match plainL ws with
      | some xs => if c' = c ∧ xs.length = nf then .ok (.d (.obj c xs)) (S.set i .dead) else .bad
      | none => .bad
    | _ => .bad
  | _, _ => .bad
def sFrzI (c nf i : Nat) (s : DS) : DS := fun e S => match e[i]? with
  | some (some w) => bindS (frzI c nf w S) e fun w' S' => s (e.set i (some w')) S'
  | _ => .bad
section
variable {J : Jn} {X : Cx} {I : Inf} {w : WX} {F Fi : FnTab} {k : Nat} {st : Stmt} {ds : DS}
theorem frzI_at {c nf : Nat} {S S' : Sto} {M : List Addr} {H : Hp} {u u' : W} {v : V} (hf : (I.fl c).length = nf) (s : Sim I S M H) (r : RepW I M (mask S M H) u v) (e : frzI c nf u S = .ok u' S') :
    Sim I S' M H ∧ Le S M H S' M H ∧ RepW I M (mask S' M H) u' v := by
  cases u with
  | d x => cases e
  | e c x => cases e
  | c i =>
    dsimp only [frzI] at e
    split at e
    · rename_i c' ws hc
      split at e
      · rename_i xs hx
        split at e
        · rename_i hn
          obtain ⟨rfl, hn⟩ := hn
          cases e
          obtain ⟨a, ea, rfl⟩ := r
          obtain ⟨C, dx, vs, hg, ho, hl, rw'⟩ := s.cell i _ a hc ea
          obtain ⟨s', l⟩ := s.kill hc
          have hr := plainL_rep rw' hx
          refine ⟨s', l, Rep.obj (dx := dx) hg ?_ ?_ (hr.mono l.ex)⟩
          · rw [mask_dead s hc ea]
            exact ho
          · rw [hf, ← hn, hr.len]
        · cases e
      · cases e
    · cases e
theorem frzI_ne (c nf : Nat) (u : W) (S : Sto) : (∃ u' S', frzI c nf u S = .ok u' S') ∨ frzI c nf u S = .bad := by
  unfold frzI
  repeat' split
  all_goals first
    | exact .inl ⟨_, _, rfl⟩
    | exact .inr rfl
theorem ss_frzI {c nf i : Nat} (hf : (I.fl c).length = nf) (h : PS X st (rdS I w ds)) : PS X st (rdS I w (sFrzI c nf i ds)) := PS_imp h fun D σ H ⟨env, S, M, s, sl, p⟩ => by
  unfold sFrzI at p
  split at p
  · rename_i u hu
    rcases frzI_ne c nf u S with ⟨u', S', e⟩ | e
    · rw [e] at p
      obtain ⟨v, hv, r⟩ := sl.get i u hu
      obtain ⟨s', l, r'⟩ := frzI_at hf s r e
      have keep : σ.set i (some v) = σ := List.ext_getElem? fun m => by
        rw [List.getElem?_set]
        by_cases q : i = m
        · subst q
          rw [if_pos rfl, hv, if_pos (List.getElem?_eq_some_iff.mp hv).1]
        · rw [if_neg q]
      have h := (sl.mono l).set (i := i) r'
      rw [keep] at h
      exact ⟨env.set i (some u'), S', M, s', h, EndS.up (r := ds (env.set i (some u')) S') p l⟩
    · rw [e] at p
      exact p.elim
  · exact p.elim
end
theorem q_frzI {c nf i : Nat} {s : DS} {e : Env} {S : Sto} {N : Env → Sto → Prop} {T : W → Sto → Prop} {B C : Env → Sto → Prop} : (sFrzI c nf i s e S).sat N T B C = GV e[i]? (fun x S => (frzI c nf x S).sat fun w S1 => (s (e.set i (some w)) S1).sat N T B C) S := q_form
end Py

/-! Py21: o[i], o2[i2] = a, b -/
namespace Py
open PySem PySem.Spec PyProof.Rows L2
def sSwp (da db o1 i1 o2 i2 : DE) : DS := fun e S => bindS (da e S) e fun x S1 => bindS (db e S1) e fun y S2 => bindS (o1 e S2) e fun u S3 => bindS (i1 e S3) e fun z S4 => match setIx u z x S4 with
  | some S5 => bindS (o2 e S5) e fun u2 S6 => bindS (i2 e S6) e fun z2 S7 => match setIx u2 z2 y S7 with
    | some S8 => .nx e S8
    | none => .bad
  | none => .bad
section
variable {X : Cx} {I : Inf} {w : WX}
theorem rdS_in {D : Ends} {σ : L2.St} {env : Env} {S : Sto} {M : List Addr} {H : Hp} {da : DE} {f : W → Sto → RS} {P : V → Hp → Prop} (s : Sim I S M H) (sl : Slots I M (mask S M H) env σ) (p : EndS I S M H D w (bindS (da env S) env f))
    (k : ∀ (x : W) (v : V) (S1 : Sto) (M1 : List Addr) (H1 : Hp), Le S M H S1 M1 H1 → Sim I S1 M1 H1 → Slots I M1 (mask S1 M1 H1) env σ → RepW I M1 (mask S1 M1 H1) x v → EndS I S1 M1 H1 D w (f x S1) → P v H1) : rdE I w da σ H P := rdS_at s sl p k
theorem ss_swp {a b o1 i1 o2 i2 : Expr} {da db d_o1 d_i1 d_o2 d_i2 : DE} {kt k2 : Nat} {pt pt2 t1 t2 pos : Pos} (hc : X.calm = true) (ha : PE X a (rdE I w da)) (hb : PE X b (rdE I w db)) (ho1 : PE X o1 (rdE I w d_o1)) (hi1 : PE X i1 (rdE I w d_i1)) (ho2 : PE X o2 (rdE I w d_o2)) (hi2 : PE X i2 (rdE I w d_i2))
    (hs1 : starEach [a, b] X.env = (false, eval a X.env) :: starEach [b] X.env := by rfl) (hs2 : starEach [b] X.env = (false, eval b X.env) :: starEach [] X.env := by rfl)
    (hs : swapsWithSole [.Tuple [.Subscript o1 i1 t1, .Subscript o2 i2 t2] kt pt] (.Tuple [a, b] k2 pt2) pos.line X.env = pure false := by rfl)
    (hw : swappedStores [.Tuple [.Subscript o1 i1 t1, .Subscript o2 i2 t2] kt pt] (.Tuple [a, b] k2 pt2) X.env = pure none := by rfl)
    (h1 : (assignEach [.Tuple [.Subscript o1 i1 t1, .Subscript o2 i2 t2] kt pt] X.env).map (·.2) = [assign (.Tuple [.Subscript o1 i1 t1, .Subscript o2 i2 t2] kt pt) X.env] := by rfl)
    (hn : (assignEach [.Subscript o1 i1 t1, .Subscript o2 i2 t2] X.env).length = 2 := by rfl) (hst : (assignEach [.Subscript o1 i1 t1, .Subscript o2 i2 t2] X.env).findIdx? (·.1) = none := by rfl)
    (hg1 : (assignEach [.Subscript o1 i1 t1, .Subscript o2 i2 t2] X.env).map (·.2) = assign (.Subscript o1 i1 t1) X.env :: (assignEach [.Subscript o2 i2 t2] X.env).map (·.2) := by rfl)
    (hg2 : (assignEach [.Subscript o2 i2 t2] X.env).map (·.2) = assign (.Subscript o2 i2 t2) X.env :: (assignEach [] X.env).map (·.2) := by rfl)
    (ha1 : ∀ v, assign (.Subscript o1 i1 t1) X.env v = (do
      let ov ← holding [v] (eval o1 X.env)
      let iv ← holding [v, ov] (eval i1 X.env)
      standAt t1
      holding [v, ov, iv] (setItem ov iv v)
      release [v, ov, iv] []) := by intro _; rfl)
    (ha2 : ∀ v, assign (.Subscript o2 i2 t2) X.env v = (do
      let ov ← holding [v] (eval o2 X.env)
      let iv ← holding [v, ov] (eval i2 X.env)
      standAt t2
      holding [v, ov, iv] (setItem ov iv v)
      release [v, ov, iv] []) := by intro _; rfl) : PS X (.Assign [.Tuple [.Subscript o1 i1 t1, .Subscript o2 i2 t2] kt pt] (.Tuple [a, b] k2 pt2) pos) (rdS I w (sSwp da db d_o1 d_i1 d_o2 d_i2)) :=
  PS_imp (ps_asg (pe_tup (pa_cons ha (pa_cons hb pa_nil hs2) hs1)) (pg_tup hc (pgs_cons (pg_sub ho1 hi1 set_list ha1) (pgs_cons (pg_sub ho2 hi2 set_list ha2) pgs_nil hg2) hg1) hn hst) hs hw h1) fun D σ H q => by
    obtain ⟨e, S, M, s, sl, p⟩ := q
    refine rdS_at s sl p fun x vx S1 M1 H1 l1 s1 sl1 r1 p1 => ?_
    refine rdS_at s1 sl1 p1 fun y vy S2 M2 H2 l2 s2 sl2 r2 p2 => ?_
    refine ⟨by simp; decide, fun q nq => ?_⟩
    obtain ⟨s2', l2'⟩ := s2.new (o := HO.tup [vx, vy]) nq
    refine ⟨q, [vx, vy], rfl, .inl (.inl (upd_same)), rfl, ?_⟩
    refine ⟨vx, [vy], rfl, ?_⟩
    have p2' := p2.up l2'
    have rx := (r1.mono l2).mono l2'
    have ry := r2.mono l2'
    have sl2' := sl2.mono l2'
    refine rdS_at s2' sl2' p2' fun u vu S3 M3 H3 l3 s3 sl3 r3 p3 => ?_
    refine rdS_at s3 sl3 p3 fun z vz S4 M4 H4 l4 s4 sl4 r4 p4 => ?_
    split at p4
    · refine setIx_at s4 (r3.mono l4) r4 ((rx.mono l3).mono l4) (by assumption) fun H' l' s' => ?_
      refine ⟨vy, [], rfl, ?_⟩
      refine rdS_at s' (sl4.mono l') (p4.up l') fun u2 vu2 S6 M6 H6 l6 s6 sl6 r6 p6 => ?_
      refine rdS_at s6 sl6 p6 fun z2 vz2 S7 M7 H7 l7 s7 sl7 r7 p7 => ?_
      split at p7
      · exact setIx_at s7 (r6.mono l7) r7 (((((ry.mono l3).mono l4).mono l').mono l6).mono l7) (by assumption) fun H'' l'' s'' => ⟨rfl, p7 σ H'' M7 l'' s'' (sl7.mono l'')⟩
      · exact p7.elim
    · exact p4.elim
end
theorem q_swp {da db o1 i1 o2 i2 : DE} {e : Env} {S : Sto} {N : Env → Sto → Prop} {T : W → Sto → Prop} {B C : Env → Sto → Prop} : (sSwp da db o1 i1 o2 i2 e S).sat N T B C = (da e S).sat fun x S1 => (db e S1).sat fun y S2 => (o1 e S2).sat fun u S3 => (i1 e S3).sat fun z S4 => ofO' (setIx u z x S4) fun S5 => (o2 e S5).sat fun u2 S6 => (i2 e S6).sat fun z2 S7 => ofO' (setIx u2 z2 y S7) fun S8 => N e S8 := by
  unfold sSwp
  repeat' first | rfl | rw [rs_bind] | (refine sat_cong fun _ _ => ?_)
  generalize setIx _ _ _ _ = o
  cases o with
  | none => rfl
  | some S5 =>
    dsimp only
    repeat' first | rfl | rw [rs_bind] | (refine sat_cong fun _ _ => ?_)
    generalize setIx _ _ _ _ = o
    cases o <;> rfl
end Py

open Py
local macro_rules
  | `(tactic| simp! [$xs,*]) => `(tactic| simp (config := { dsimp := false, implicitDefEqProofs := false }) only [↓rs_pass, ↓rs_for, ↓dComp_sat, ↓dCompC_sat, ↓dComp2_sat, ↓comp_nil, ↓comp_cons, plainL_map, ↓br_t, ↓br_f, ↓sat_ok, ↓sat_bad, ↓sat_ite, ↓GV_s, ↓ofO_s, ↓ofO_n,
      ↓s_var, ↓s_c, ↓s_op, ↓s_un, ↓s_nil, ↓s_cons, ↓s_tup, ↓s_lst, ↓s_lstC, ↓s_frz, ↓s_call, ↓s_meth, ↓s_mk, ↓s_mkK, ↓s_attr, ↓s_tr, ↓s_tb, ↓s_and, ↓s_or, ↓s_not, ↓s_andV, ↓s_orV, ↓s_notV, ↓s_ifE, ↓s_chain, ↓s_B, ↓s_isT, ↓s_isC, ↓s_none, ↓s_some, ↓s_sl, ↓s_app, ↓s_any, ↓s_r1, ↓s_r2, ↓s_r3, ↓s_zip, ↓s_rev, ↓s_enum, ↓s_bm, ↓s_callO, ↓s_prop, ↓s_yes,
      ↓q_expr, ↓q_ret, ↓q_retN, ↓q_if, ↓q_break, ↓q_cont, ↓q_never, ↓q_asg, ↓q_par, ↓q_aug, ↓q_sub, ↓q_fld, ↓q_frz, ↓q_frz2, ↓q_mv, ↓q_while,
      GV_s, ofO_s, ofO_n, br_t, br_f, sat_ok, sat_bad, sat_ite, tupR, lstR, lstCR, tbR, isTR, isCR, someR, itR,
      plainL, frz, seqOf, opIx, opSub, opMul, opDiv, opMod, opPow18, opNeg, opAdd, lstOf, eqS, opEqS, opNeS, opEqG, opNeG, opLt, opLe, opGt, opGe, isN, opIs, opIsNot, isC, attr, tru, truO_bl, truO_int, truO_tup, truO_lst, truO_non, gLen, gAbs, gMax2, gMin2, gInt, gStr, lsOf, gTuple, gList, gListC, gMax1, gSum, gSort, gAny, gAll, intsL_map, boolsL_map, intsL, boolsL, Option.bind_some, Option.map_some, tyOf, isT, slc, opO, unO, gNm, gNil, gCons, gTp, uns, setIx, W.lowB, setAt, app, isLc, itemsOf, rg1, rg2, rg3, zipO, revO, enumO, tyS, ofP, putL, gPop, gExtend, gSIndex, gSFind, gSJoin, gInsert, gBool, lstW, eqO, okT, mv, cutR_d, atI_0, atI_1, atI_2, atI_3, atI_4, atI_5, atI_6, atI_7, ixN_0, ixN_1, ixN_2, ixN_3, ixN_4, ixN_5, ixN_6, ixN_7,
      List.getElem?_cons_zero, List.getElem?_cons_succ, List.set_cons_zero, List.set_cons_succ, List.getElem?_nil, List.length_cons, List.length_nil, List.length_append, List.length_set, List.length_map, List.map_cons, List.map_nil, List.map_append, List.append_nil, List.nil_append, List.cons_append, List.replicate, Option.some.injEq, dec_t, if_true, if_false, ite_true, ite_false, reduceIte, reduceCtorEq, Nat.reduceSub, Nat.reduceAdd, Nat.reduceLT, Nat.reduceLeDiff, Nat.reduceEqDiff, Int.reduceEq, Int.reduceNe, Int.reduceLE, Int.reduceLT, Int.reduceAdd, Int.reduceSub, Int.reduceMul, Int.reduceNeg, Bool.false_eq_true, Bool.not_eq_true', Bool.not_true, Bool.not_false, decide_true, decide_false, beq_self_eq_true, ne_eq, not_true_eq_false, not_false_eq_true, true_and, and_true, and_self, false_and, and_false, $xs,*])
local macro_rules
  | `(tactic| simp!) => `(tactic| simp (config := { dsimp := false, implicitDefEqProofs := false }) only [↓rs_pass, ↓rs_for, ↓dComp_sat, ↓dCompC_sat, ↓dComp2_sat, ↓comp_nil, ↓comp_cons, plainL_map, ↓br_t, ↓br_f, ↓sat_ok, ↓sat_bad, ↓sat_ite, ↓GV_s, ↓ofO_s, ↓ofO_n,
      ↓s_var, ↓s_c, ↓s_op, ↓s_un, ↓s_nil, ↓s_cons, ↓s_tup, ↓s_lst, ↓s_lstC, ↓s_frz, ↓s_call, ↓s_meth, ↓s_mk, ↓s_mkK, ↓s_attr, ↓s_tr, ↓s_tb, ↓s_and, ↓s_or, ↓s_not, ↓s_andV, ↓s_orV, ↓s_notV, ↓s_ifE, ↓s_chain, ↓s_B, ↓s_isT, ↓s_isC, ↓s_none, ↓s_some, ↓s_sl, ↓s_app, ↓s_any, ↓s_r1, ↓s_r2, ↓s_r3, ↓s_zip, ↓s_rev, ↓s_enum, ↓s_bm, ↓s_callO, ↓s_prop, ↓s_yes,
      ↓q_expr, ↓q_ret, ↓q_retN, ↓q_if, ↓q_break, ↓q_cont, ↓q_never, ↓q_asg, ↓q_par, ↓q_aug, ↓q_sub, ↓q_fld, ↓q_frz, ↓q_frz2, ↓q_mv, ↓q_while,
      GV_s, ofO_s, ofO_n, br_t, br_f, sat_ok, sat_bad, sat_ite, tupR, lstR, lstCR, tbR, isTR, isCR, someR, itR,
      plainL, frz, seqOf, opIx, opSub, opMul, opDiv, opMod, opPow18, opNeg, opAdd, lstOf, eqS, opEqS, opNeS, opEqG, opNeG, opLt, opLe, opGt, opGe, isN, opIs, opIsNot, isC, attr, tru, truO_bl, truO_int, truO_tup, truO_lst, truO_non, gLen, gAbs, gMax2, gMin2, gInt, gStr, lsOf, gTuple, gList, gListC, gMax1, gSum, gSort, gAny, gAll, intsL_map, boolsL_map, intsL, boolsL, Option.bind_some, Option.map_some, tyOf, isT, slc, opO, unO, gNm, gNil, gCons, gTp, uns, setIx, W.lowB, setAt, app, isLc, itemsOf, rg1, rg2, rg3, zipO, revO, enumO, tyS, ofP, putL, gPop, gExtend, gSIndex, gSFind, gSJoin, gInsert, gBool, lstW, eqO, okT, mv, cutR_d, atI_0, atI_1, atI_2, atI_3, atI_4, atI_5, atI_6, atI_7, ixN_0, ixN_1, ixN_2, ixN_3, ixN_4, ixN_5, ixN_6, ixN_7,
      List.getElem?_cons_zero, List.getElem?_cons_succ, List.set_cons_zero, List.set_cons_succ, List.getElem?_nil, List.length_cons, List.length_nil, List.length_append, List.length_set, List.length_map, List.map_cons, List.map_nil, List.map_append, List.append_nil, List.nil_append, List.cons_append, List.replicate, Option.some.injEq, dec_t, if_true, if_false, ite_true, ite_false, reduceIte, reduceCtorEq, Nat.reduceSub, Nat.reduceAdd, Nat.reduceLT, Nat.reduceLeDiff, Nat.reduceEqDiff, Int.reduceEq, Int.reduceNe, Int.reduceLE, Int.reduceLT, Int.reduceAdd, Int.reduceSub, Int.reduceMul, Int.reduceNeg, Bool.false_eq_true, Bool.not_eq_true', Bool.not_true, Bool.not_false, decide_true, decide_false, beq_self_eq_true, ne_eq, not_true_eq_false, not_false_eq_true, true_and, and_true, and_self, false_and, and_false])
local macro_rules
  | `(tactic| dsimp! [$xs,*]) => `(tactic| simp (config := { dsimp := false, implicitDefEqProofs := false }) only [↓rs_seq, ↓rs_pass, ↓rs_for, ↓dComp_sat, ↓dCompC_sat, ↓dComp2_sat, ↓comp_nil, ↓comp_cons, plainL_map, ↓br_t, ↓br_f, ↓sat_ok, ↓sat_bad, ↓sat_ite, ↓GV_s, ↓ofO_s, ↓ofO_n,
      ↓s_var, ↓s_c, ↓s_op, ↓s_un, ↓s_nil, ↓s_cons, ↓s_tup, ↓s_lst, ↓s_lstC, ↓s_frz, ↓s_call, ↓s_meth, ↓s_mk, ↓s_mkK, ↓s_attr, ↓s_tr, ↓s_tb, ↓s_and, ↓s_or, ↓s_not, ↓s_andV, ↓s_orV, ↓s_notV, ↓s_ifE, ↓s_chain, ↓s_B, ↓s_isT, ↓s_isC, ↓s_none, ↓s_some, ↓s_sl, ↓s_app, ↓s_any, ↓s_r1, ↓s_r2, ↓s_r3, ↓s_zip, ↓s_rev, ↓s_enum, ↓s_bm, ↓s_callO, ↓s_prop, ↓s_yes,
      ↓q_expr, ↓q_ret, ↓q_retN, ↓q_if, ↓q_break, ↓q_cont, ↓q_never, ↓q_asg, ↓q_par, ↓q_aug, ↓q_sub, ↓q_fld, ↓q_frz, ↓q_frz2, ↓q_mv, ↓q_while,
      GV_s, ofO_s, ofO_n, br_t, br_f, sat_ok, sat_bad, sat_ite, tupR, lstR, lstCR, tbR, isTR, isCR, someR, itR,
      plainL, frz, seqOf, opIx, opSub, opMul, opDiv, opMod, opPow18, opNeg, opAdd, lstOf, eqS, opEqS, opNeS, opEqG, opNeG, opLt, opLe, opGt, opGe, isN, opIs, opIsNot, isC, attr, tru, truO_bl, truO_int, truO_tup, truO_lst, truO_non, gLen, gAbs, gMax2, gMin2, gInt, gStr, lsOf, gTuple, gList, gListC, gMax1, gSum, gSort, gAny, gAll, intsL_map, boolsL_map, intsL, boolsL, Option.bind_some, Option.map_some, tyOf, isT, slc, opO, unO, gNm, gNil, gCons, gTp, uns, setIx, W.lowB, setAt, app, isLc, itemsOf, rg1, rg2, rg3, zipO, revO, enumO, tyS, ofP, putL, gPop, gExtend, gSIndex, gSFind, gSJoin, gInsert, gBool, lstW, eqO, okT, mv, cutR_d, atI_0, atI_1, atI_2, atI_3, atI_4, atI_5, atI_6, atI_7, ixN_0, ixN_1, ixN_2, ixN_3, ixN_4, ixN_5, ixN_6, ixN_7,
      List.getElem?_cons_zero, List.getElem?_cons_succ, List.set_cons_zero, List.set_cons_succ, List.getElem?_nil, List.length_cons, List.length_nil, List.length_append, List.length_set, List.length_map, List.map_cons, List.map_nil, List.map_append, List.append_nil, List.nil_append, List.cons_append, List.replicate, Option.some.injEq, dec_t, if_true, if_false, ite_true, ite_false, reduceIte, reduceCtorEq, Nat.reduceSub, Nat.reduceAdd, Nat.reduceLT, Nat.reduceLeDiff, Nat.reduceEqDiff, Int.reduceEq, Int.reduceNe, Int.reduceLE, Int.reduceLT, Int.reduceAdd, Int.reduceSub, Int.reduceMul, Int.reduceNeg, Bool.false_eq_true, Bool.not_eq_true', Bool.not_true, Bool.not_false, decide_true, decide_false, beq_self_eq_true, ne_eq, not_true_eq_false, not_false_eq_true, true_and, and_true, and_self, false_and, and_false, $xs,*])
local macro_rules
  | `(tactic| dsimp!) => `(tactic| simp (config := { dsimp := false, implicitDefEqProofs := false }) only [↓rs_seq, ↓rs_pass, ↓rs_for, ↓dComp_sat, ↓dCompC_sat, ↓dComp2_sat, ↓comp_nil, ↓comp_cons, plainL_map, ↓br_t, ↓br_f, ↓sat_ok, ↓sat_bad, ↓sat_ite, ↓GV_s, ↓ofO_s, ↓ofO_n,
      ↓s_var, ↓s_c, ↓s_op, ↓s_un, ↓s_nil, ↓s_cons, ↓s_tup, ↓s_lst, ↓s_lstC, ↓s_frz, ↓s_call, ↓s_meth, ↓s_mk, ↓s_mkK, ↓s_attr, ↓s_tr, ↓s_tb, ↓s_and, ↓s_or, ↓s_not, ↓s_andV, ↓s_orV, ↓s_notV, ↓s_ifE, ↓s_chain, ↓s_B, ↓s_isT, ↓s_isC, ↓s_none, ↓s_some, ↓s_sl, ↓s_app, ↓s_any, ↓s_r1, ↓s_r2, ↓s_r3, ↓s_zip, ↓s_rev, ↓s_enum, ↓s_bm, ↓s_callO, ↓s_prop, ↓s_yes,
      ↓q_expr, ↓q_ret, ↓q_retN, ↓q_if, ↓q_break, ↓q_cont, ↓q_never, ↓q_asg, ↓q_par, ↓q_aug, ↓q_sub, ↓q_fld, ↓q_frz, ↓q_frz2, ↓q_mv, ↓q_while,
      GV_s, ofO_s, ofO_n, br_t, br_f, sat_ok, sat_bad, sat_ite, tupR, lstR, lstCR, tbR, isTR, isCR, someR, itR,
      plainL, frz, seqOf, opIx, opSub, opMul, opDiv, opMod, opPow18, opNeg, opAdd, lstOf, eqS, opEqS, opNeS, opEqG, opNeG, opLt, opLe, opGt, opGe, isN, opIs, opIsNot, isC, attr, tru, truO_bl, truO_int, truO_tup, truO_lst, truO_non, gLen, gAbs, gMax2, gMin2, gInt, gStr, lsOf, gTuple, gList, gListC, gMax1, gSum, gSort, gAny, gAll, intsL_map, boolsL_map, intsL, boolsL, Option.bind_some, Option.map_some, tyOf, isT, slc, opO, unO, gNm, gNil, gCons, gTp, uns, setIx, W.lowB, setAt, app, isLc, itemsOf, rg1, rg2, rg3, zipO, revO, enumO, tyS, ofP, putL, gPop, gExtend, gSIndex, gSFind, gSJoin, gInsert, gBool, lstW, eqO, okT, mv, cutR_d, atI_0, atI_1, atI_2, atI_3, atI_4, atI_5, atI_6, atI_7, ixN_0, ixN_1, ixN_2, ixN_3, ixN_4, ixN_5, ixN_6, ixN_7,
      List.getElem?_cons_zero, List.getElem?_cons_succ, List.set_cons_zero, List.set_cons_succ, List.getElem?_nil, List.length_cons, List.length_nil, List.length_append, List.length_set, List.length_map, List.map_cons, List.map_nil, List.map_append, List.append_nil, List.nil_append, List.cons_append, List.replicate, Option.some.injEq, dec_t, if_true, if_false, ite_true, ite_false, reduceIte, reduceCtorEq, Nat.reduceSub, Nat.reduceAdd, Nat.reduceLT, Nat.reduceLeDiff, Nat.reduceEqDiff, Int.reduceEq, Int.reduceNe, Int.reduceLE, Int.reduceLT, Int.reduceAdd, Int.reduceSub, Int.reduceMul, Int.reduceNeg, Bool.false_eq_true, Bool.not_eq_true', Bool.not_true, Bool.not_false, decide_true, decide_false, beq_self_eq_true, ne_eq, not_true_eq_false, not_false_eq_true, true_and, and_true, and_self, false_and, and_false])
local macro_rules
  | `(tactic| simp_all! [$xs,*]) => `(tactic| (rw [rs_seq]; simp! [$xs,*]))
local macro_rules
  | `(tactic| simp_all!) => `(tactic| (rw [rs_seq]; simp!))

namespace Lw
open PySem PySem.Spec PyProof.Rows L2 Py
abbrev i_shared_part : Nat := 0
abbrev i_Ratio___init__ : Nat := 1
abbrev i_Ratio___add__ : Nat := 2
abbrev i_Ratio___sub__ : Nat := 3
abbrev i_Ratio___mul__ : Nat := 4
abbrev i_Ratio___neg__ : Nat := 5
abbrev i_Ratio___eq__ : Nat := 6
abbrev i_Ratio___bool__ : Nat := 7
abbrev i_Ratio_over : Nat := 8
abbrev i_unit : Nat := 9
abbrev i_leading : Nat := 10
abbrev i_scaled_row : Nat := 11
abbrev i_less : Nat := 12
abbrev i_Space___init__ : Nat := 13
abbrev i_Space_rest : Nat := 14
abbrev i_Space_has : Nat := 15
abbrev i_Space_grow : Nat := 16
abbrev i_space_of : Nat := 17
abbrev i_reduced : Nat := 18
abbrev i_rank : Nat := 19
abbrev i_solve : Nat := 20
abbrev i_inverse : Nat := 21
abbrev i__law_feed : Nat := 22
abbrev i__law_draw : Nat := 23
abbrev i__law_great : Nat := 24
abbrev i__law_pair : Nat := 25
abbrev i__law_sum : Nat := 26
abbrev i__law_by : Nat := 27
abbrev i__law_is_integer : Nat := 28
abbrev i__law_same : Nat := 29
abbrev i__law_same_row : Nat := 30
abbrev i__law_same_table : Nat := 31
abbrev i__law_ratios : Nat := 32
abbrev i__law_ratio_table : Nat := 33
abbrev i__law_number : Nat := 34
abbrev i__law_product : Nat := 35
abbrev i__law_other : Nat := 36
abbrev i__law_added : Nat := 37
abbrev i__law_square : Nat := 38
abbrev i__law_dependent : Nat := 39
abbrev i__law_pairs : Nat := 40
abbrev i_law : Nat := 41
abbrev L_nm : List (Nat × Str × Nat) := [(i_shared_part, ("shared_part" : Str), 2), (i_unit, ("unit" : Str), 1), (i_leading, ("leading" : Str), 1), (i_scaled_row, ("scaled_row" : Str), 2), (i_less, ("less" : Str), 3), (i_space_of, ("space_of" : Str), 1), (i_reduced, ("reduced" : Str), 1), (i_rank, ("rank" : Str), 1), (i_solve, ("solve" : Str), 2), (i_inverse, ("inverse" : Str), 1), (i__law_feed, ("_law_feed" : Str), 1), (i__law_draw, ("_law_draw" : Str), 2), (i__law_great, ("_law_great" : Str), 2), (i__law_pair, ("_law_pair" : Str), 2), (i__law_sum, ("_law_sum" : Str), 2), (i__law_by, ("_law_by" : Str), 2), (i__law_is_integer, ("_law_is_integer" : Str), 1), (i__law_same, ("_law_same" : Str), 2), (i__law_same_row, ("_law_same_row" : Str), 2), (i__law_same_table, ("_law_same_table" : Str), 2), (i__law_ratios, ("_law_ratios" : Str), 1), (i__law_ratio_table, ("_law_ratio_table" : Str), 1), (i__law_number, ("_law_number" : Str), 2), (i__law_product, ("_law_product" : Str), 3), (i__law_other, ("_law_other" : Str), 2), (i__law_added, ("_law_added" : Str), 3), (i__law_square, ("_law_square" : Str), 3), (i__law_dependent, ("_law_dependent" : Str), 2), (i__law_pairs, ("_law_pairs" : Str), 2), (i_law, ("law" : Str), 1)]
abbrev L_mt : List (Nat × Nat × Str × Nat) := [(i_Ratio___add__, 0, ("__add__" : Str), 2), (i_Ratio___sub__, 0, ("__sub__" : Str), 2), (i_Ratio___mul__, 0, ("__mul__" : Str), 2), (i_Ratio___neg__, 0, ("__neg__" : Str), 1), (i_Ratio___eq__, 0, ("__eq__" : Str), 2), (i_Ratio___bool__, 0, ("__bool__" : Str), 1), (i_Ratio_over, 0, ("over" : Str), 2), (i_Space_rest, 1, ("rest" : Str), 2), (i_Space_has, 1, ("has" : Str), 2), (i_Space_grow, 1, ("grow" : Str), 2)]
abbrev L_ini : List (Nat × Str × Nat × Nat × List (List V)) := [(0, ("Ratio" : Str), i_Ratio___init__, 3, [[], [V.int 1]]), (1, ("Space" : Str), i_Space___init__, 1, [[]])]
abbrev L_kw : List (Nat × Str × Nat × Nat × Nat × List Str) := []
abbrev L_prop : List (Nat × Nat × Str) := []
abbrev L_con : List (Str × V) := []
abbrev L_cn : List (Str × Nat) := [(("Ratio" : Str), 0), (("Space" : Str), 1)]
abbrev L_xn : List (Str × Nat) := []
def SG : Sg where
  fl := fun c => ([(0, [("top" : Str), ("bottom" : Str)]), (1, [("rows" : Str)])] : List (Nat × List Str)).lookup c |>.getD []
  nm := fun f => L_nm.lookup f
  mt := fun f => L_mt.lookup f
  ini := fun c => L_ini.lookup c
  kw := fun c => L_kw.lookup c
  prop := fun f => L_prop.lookup f
  blt := fun x => ([("abs" : Str), ("bool" : Str), ("enumerate" : Str), ("int" : Str), ("isinstance" : Str), ("len" : Str), ("max" : Str), ("range" : Str), ("sorted" : Str), ("tuple" : Str), ("zip" : Str)] : List Str).contains x
  con := fun x => L_con.lookup x
  cn := fun x => L_cn.lookup x
  sub := fun a b => a == b
  xn := fun x => L_xn.lookup x
  xs := fun a b => ([] : List (Nat × Nat)).contains (a, b)
noncomputable def c_shared_part (F Fi : FnTab) : DS := (sSeq (sWhile WF [] (dTb (dOp opNeG (dVar 1) (dC (.int 0)))) (sPar 0 1 (dVar 1) (dOp opMod (dVar 0) (dVar 1)))) (sRet (dVar 0)))
noncomputable def c_Ratio___init__ (F Fi : FnTab) : DS := (sSeq (sIf (dTb (dOp (eqO F 0 i_Ratio___eq__ opEqG) (dVar 2) (dC (.int 0)))) sNever sPass) (sSeq (sIf (dTb (dOp opLt (dVar 2) (dC (.int 0)))) (sPar 1 2 (dUn (unO F 0 i_Ratio___neg__ opNeg) (dVar 1)) (dUn (unO F 0 i_Ratio___neg__ opNeg) (dVar 2))) sPass) (sSeq (sAsg (dCall F i_shared_part 2 (dCons (dB gAbs (dCons (dVar 1) dNil)) (dCons (dVar 2) dNil))) (gNm 3)) (sSeq (sFldD 0 0 (dOp opDiv (dVar 1) (dVar 3)) (dVar 0)) (sFldD 0 1 (dOp opDiv (dVar 2) (dVar 3)) (dVar 0))))))
noncomputable def c_Ratio___add__ (F Fi : FnTab) : DS := (sRet (dMk (mkF Fi 0 i_Ratio___init__ 3 2) [] (dCons (dOp (opO F 0 i_Ratio___add__ opAdd) (dOp (opO F 0 i_Ratio___mul__ opMul) (dAttr 0 0 (dVar 0)) (dAttr 0 1 (dVar 1))) (dOp (opO F 0 i_Ratio___mul__ opMul) (dAttr 0 0 (dVar 1)) (dAttr 0 1 (dVar 0)))) (dCons (dOp (opO F 0 i_Ratio___mul__ opMul) (dAttr 0 1 (dVar 0)) (dAttr 0 1 (dVar 1))) dNil))))
noncomputable def c_Ratio___sub__ (F Fi : FnTab) : DS := (sRet (dMk (mkF Fi 0 i_Ratio___init__ 3 2) [] (dCons (dOp (opO F 0 i_Ratio___sub__ opSub) (dOp (opO F 0 i_Ratio___mul__ opMul) (dAttr 0 0 (dVar 0)) (dAttr 0 1 (dVar 1))) (dOp (opO F 0 i_Ratio___mul__ opMul) (dAttr 0 0 (dVar 1)) (dAttr 0 1 (dVar 0)))) (dCons (dOp (opO F 0 i_Ratio___mul__ opMul) (dAttr 0 1 (dVar 0)) (dAttr 0 1 (dVar 1))) dNil))))
noncomputable def c_Ratio___mul__ (F Fi : FnTab) : DS := (sRet (dMk (mkF Fi 0 i_Ratio___init__ 3 2) [] (dCons (dOp (opO F 0 i_Ratio___mul__ opMul) (dAttr 0 0 (dVar 0)) (dAttr 0 0 (dVar 1))) (dCons (dOp (opO F 0 i_Ratio___mul__ opMul) (dAttr 0 1 (dVar 0)) (dAttr 0 1 (dVar 1))) dNil))))
noncomputable def c_Ratio___neg__ (F Fi : FnTab) : DS := (sRet (dMk (mkF Fi 0 i_Ratio___init__ 3 2) [] (dCons (dUn (unO F 0 i_Ratio___neg__ opNeg) (dAttr 0 0 (dVar 0))) (dCons (dAttr 0 1 (dVar 0)) dNil))))
noncomputable def c_Ratio___eq__ (F Fi : FnTab) : DS := (sRet (dAndV (dIsC SG.sub 0 (dVar 1)) (dAndV (dOp (eqO F 0 i_Ratio___eq__ opEqG) (dAttr 0 0 (dVar 0)) (dAttr 0 0 (dVar 1))) (dOp (eqO F 0 i_Ratio___eq__ opEqG) (dAttr 0 1 (dVar 0)) (dAttr 0 1 (dVar 1))))))
noncomputable def c_Ratio___bool__ (F Fi : FnTab) : DS := (sRet (dOp opNeG (dAttr 0 0 (dVar 0)) (dC (.int 0))))
noncomputable def c_Ratio_over (F Fi : FnTab) : DS := (sRet (dMk (mkF Fi 0 i_Ratio___init__ 3 2) [] (dCons (dOp (opO F 0 i_Ratio___mul__ opMul) (dAttr 0 0 (dVar 0)) (dAttr 0 1 (dVar 1))) (dCons (dOp (opO F 0 i_Ratio___mul__ opMul) (dAttr 0 1 (dVar 0)) (dAttr 0 0 (dVar 1))) dNil))))
noncomputable def c_unit (F Fi : FnTab) : DS := (sRet (dB gTuple (dCons (dComp [1] (gNm 1) (iRange1 (dVar 0)) tYesD (dB gTuple (dCons (dComp [2] (gNm 2) (iRange1 (dVar 0)) tYesD (dMk (mkF Fi 0 i_Ratio___init__ 3 2) [.int 1] (dCons (dB gInt (dCons (dOp (eqO F 0 i_Ratio___eq__ opEqG) (dVar 1) (dVar 2)) dNil)) dNil))) dNil))) dNil)))
noncomputable def c_leading (F Fi : FnTab) : DS := (sSeq (sFor [1, 2] (gTp (gCons (gNm 1) (gCons (gNm 2) gNil))) (iEnum (dVar 0)) (sIf (dTr (truO F 0 i_Ratio___bool__) (dVar 2)) (sRet (dVar 1)) sPass)) (sRet (dB gLen (dCons (dVar 0) dNil))))
noncomputable def c_scaled_row (F Fi : FnTab) : DS := (sRet (dB gTuple (dCons (dComp [2] (gNm 2) (iAny (dVar 0)) tYesD (dOp (opO F 0 i_Ratio___mul__ opMul) (dVar 2) (dVar 1))) dNil)))
noncomputable def c_less (F Fi : FnTab) : DS := (sSeq (sIf (dNot (dTr (truO F 0 i_Ratio___bool__) (dVar 1))) (sRet (dVar 0)) sPass) (sRet (dB gTuple (dCons (dComp [3, 4] (gTp (gCons (gNm 3) (gCons (gNm 4) gNil))) (iZip (dVar 0) (dVar 2)) tYesD (dOp (opO F 0 i_Ratio___sub__ opSub) (dVar 3) (dOp (opO F 0 i_Ratio___mul__ opMul) (dVar 1) (dVar 4)))) dNil))))
noncomputable def c_Space___init__ (F Fi : FnTab) : DS := (sFldD 1 0 (dTup dNil) (dVar 0))
noncomputable def c_Space_rest (F Fi : FnTab) : DS := (sSeq (sFor [0, 2] (gNm 2) (iAny (dAttr 1 0 (dVar 0))) (sAsg (dCall F i_less 3 (dCons (dVar 1) (dCons (dOp opIx (dVar 1) (dCall F i_leading 1 (dCons (dVar 2) dNil))) (dCons (dVar 2) dNil)))) (gNm 1))) (sRet (dVar 1)))
noncomputable def c_Space_has (F Fi : FnTab) : DS := (sRet (dOp (eqO F 0 i_Ratio___eq__ opEqG) (dCall F i_leading 1 (dCons (dMeth F 1 i_Space_rest 2 (dVar 0) (dCons (dVar 1) dNil)) dNil)) (dB gLen (dCons (dVar 1) dNil))))
noncomputable def c_Space_grow (F Fi : FnTab) : DS := (sSeq (sAsg (dMeth F 1 i_Space_rest 2 (dVar 0) (dCons (dVar 1) dNil)) (gNm 1)) (sSeq (sAsg (dCall F i_leading 1 (dCons (dVar 1) dNil)) (gNm 2)) (sSeq (sIf (dTb (dOp (eqO F 0 i_Ratio___eq__ opEqG) (dVar 2) (dB gLen (dCons (dVar 1) dNil)))) (sRet (dC (.bl false))) sPass) (sSeq (sAsg (dCall F i_scaled_row 2 (dCons (dVar 1) (dCons (dMeth F 0 i_Ratio_over 2 (dMk (mkF Fi 0 i_Ratio___init__ 3 2) [.int 1] (dCons (dC (.int 1)) dNil)) (dCons (dOp opIx (dVar 1) (dVar 2)) dNil)) dNil))) (gNm 1)) (sSeq (sAsg (dComp [4] (gNm 4) (iAny (dAttr 1 0 (dVar 0))) tYesD (dCall F i_less 3 (dCons (dVar 4) (dCons (dOp opIx (dVar 4) (dVar 2)) (dCons (dVar 1) dNil))))) (gNm 3)) (sSeq (sFldD 1 0 (dB gTuple (dCons (dSortK Fi i_leading (dOp (opO F 0 i_Ratio___add__ opAdd) (dVar 3) (dLst (dCons (dVar 1) dNil)))) dNil)) (dVar 0)) (sRet (dC (.bl true)))))))))
noncomputable def c_space_of (F Fi : FnTab) : DS := (sSeq (sAsg (dMk (mkC Fi 1 i_Space___init__ 1) [] dNil) (gNm 1)) (sSeq (sFor [0, 2] (gNm 2) (iAny (dVar 0)) (sExpr (dMeth F 1 i_Space_grow 2 (dVar 1) (dCons (dVar 2) dNil)))) (sFrzI 1 1 1 (sRet (dVar 1)))))
noncomputable def c_reduced (F Fi : FnTab) : DS := (sRet (dAttr 1 0 (dCall F i_space_of 1 (dCons (dVar 0) dNil))))
noncomputable def c_rank (F Fi : FnTab) : DS := (sRet (dB gLen (dCons (dCall F i_reduced 1 (dCons (dVar 0) dNil)) dNil)))
noncomputable def c_solve (F Fi : FnTab) : DS := (sSeq (sAsg (dB gLen (dCons (dVar 0) dNil)) (gNm 2)) (sSeq (sAsg (dCall F i_unit 1 (dCons (dVar 2) dNil)) (gNm 3)) (sSeq (sAsg (dCall F i_space_of 1 (dCons (dComp [7, 8] (gTp (gCons (gNm 7) (gCons (gNm 8) gNil))) (iEnum (dVar 0)) tYesD (dOp (opO F 0 i_Ratio___add__ opAdd) (dB gTuple (dCons (dVar 8) dNil)) (dOp opIx (dVar 3) (dVar 7)))) dNil)) (gNm 4)) (sSeq (sAsg (dMeth F 1 i_Space_rest 2 (dVar 4) (dCons (dOp (opO F 0 i_Ratio___add__ opAdd) (dB gTuple (dCons (dVar 1) dNil)) (dB gTuple (dCons (dComp [10] (gNm 10) (iRange1 (dVar 2)) tYesD (dMk (mkF Fi 0 i_Ratio___init__ 3 2) [.int 1] (dCons (dC (.int 0)) dNil))) dNil))) dNil)) (gNm 5)) (sSeq (sAsg (dB gLen (dCons (dVar 1) dNil)) (gNm 6)) (sSeq (sIf (dTb (dOp opLt (dCall F i_leading 1 (dCons (dVar 5) dNil)) (dVar 6))) (sRet (dC .non)) sPass) (sRet (dB gTuple (dCons (dComp [9] (gNm 9) (iAny (dSl (dVar 5) (oSome (dVar 6)) oNone)) tYesD (dUn (unO F 0 i_Ratio___neg__ opNeg) (dVar 9))) dNil)))))))))
noncomputable def c_inverse (F Fi : FnTab) : DS := (sSeq (sAsg (dB gLen (dCons (dVar 0) dNil)) (gNm 1)) (sSeq (sIf (dTb (dOp opLt (dCall F i_rank 1 (dCons (dVar 0) dNil)) (dVar 1))) (sRet (dC .non)) sPass) (sRet (dB gTuple (dCons (dComp [2] (gNm 2) (iAny (dCall F i_unit 1 (dCons (dVar 1) dNil))) tYesD (dCall F i_solve 2 (dCons (dVar 0) (dCons (dVar 2) dNil)))) dNil)))))
noncomputable def c__law_feed (F Fi : FnTab) : DS := (sRet (dLstC (dCons (dComp [1] (gNm 1) (iAny (dSl (dVar 0) oNone (oSome (dC (.int 63))))) tYesD (dB gAbs (dCons (dVar 1) dNil))) (dCons (dC (.int 0)) (dCons (dC (.int 0)) (dCons (dOp (opO F 0 i_Ratio___add__ opAdd) (dC (.int 7)) (dB gLen (dCons (dVar 0) dNil))) dNil))))))
noncomputable def c__law_draw (F Fi : FnTab) : DS := (sSeq (sAsg (dOp opIx (dVar 0) (dC (.int 0))) (gNm 2)) (sSeq (sIf (dAnd (dTb (dOp (eqO F 0 i_Ratio___eq__ opEqG) (dOp opIx (dVar 0) (dC (.int 2))) (dC (.int 0)))) (dTb (dOp opLt (dOp opIx (dVar 0) (dC (.int 1))) (dB gLen (dCons (dVar 2) dNil))))) (sSeq (sAsg (dOp opIx (dVar 2) (dOp opIx (dVar 0) (dC (.int 1)))) (gNm 3)) (sSeq (sSub (dOp (opO F 0 i_Ratio___add__ opAdd) (dOp opIx (dVar 0) (dC (.int 1))) (dC (.int 1))) (dVar 0) (dC (.int 1))) (sIf (dTb (dOp opGe (dVar 3) (dOp opPow (dC (.int 10)) (dC (.int 18))))) (sSub (dVar 3) (dVar 0) (dC (.int 2))) (sSub (dOp opMod (dB gInt (dCons (dOp (opO F 0 i_Ratio___add__ opAdd) (dOp (opO F 0 i_Ratio___add__ opAdd) (dOp (opO F 0 i_Ratio___mul__ opMul) (dOp opIx (dVar 0) (dC (.int 3))) (dC (.int 48271))) (dOp (opO F 0 i_Ratio___mul__ opMul) (dVar 3) (dC (.int 69621)))) (dC (.int 11))) dNil)) (dC (.int 2147483647))) (dVar 0) (dC (.int 3)))))) sPass) (sSeq (sIf (dTb (dOp opGt (dOp opIx (dVar 0) (dC (.int 2))) (dC (.int 0)))) (sSeq (sAsg (dOp opMod (dB gInt (dCons (dOp opIx (dVar 0) (dC (.int 2))) dNil)) (dVar 1)) (gNm 4)) (sSeq (sSub (dOp opDiv (dOp opIx (dVar 0) (dC (.int 2))) (dVar 1)) (dVar 0) (dC (.int 2))) (sRet (dVar 4)))) sPass) (sSeq (sSub (dOp opMod (dB gInt (dCons (dOp (opO F 0 i_Ratio___add__ opAdd) (dOp (opO F 0 i_Ratio___mul__ opMul) (dOp opIx (dVar 0) (dC (.int 3))) (dC (.int 16807))) (dC (.int 12345))) dNil)) (dC (.int 2147483629))) (dVar 0) (dC (.int 3))) (sRet (dOp opMod (dB gInt (dCons (dOp (opO F 0 i_Ratio___add__ opAdd) (dOp opDiv (dOp (opO F 0 i_Ratio___mul__ opMul) (dOp opIx (dVar 0) (dC (.int 3))) (dOp opIx (dVar 0) (dC (.int 3)))) (dC (.int 1024))) (dOp opDiv (dOp opIx (dVar 0) (dC (.int 3))) (dC (.int 65536)))) dNil)) (dVar 1)))))))
noncomputable def c__law_great (F Fi : FnTab) : DS := (sSeq (sAsg (dC (.int 0)) (gNm 2)) (sSeq (sFor [1, 3] (gNm 3) (iRange1 (dVar 1)) (sAsg (dOp (opO F 0 i_Ratio___add__ opAdd) (dOp (opO F 0 i_Ratio___mul__ opMul) (dVar 2) (dC (.int 100000))) (dCall F i__law_draw 2 (dCons (dVar 0) (dCons (dC (.int 100000)) dNil)))) (gNm 2))) (sRet (dVar 2))))
noncomputable def c__law_pair (F Fi : FnTab) : DS := (sSeq (sAsg (dB gAbs (dCons (dVar 0) dNil)) (gNm 2)) (sSeq (sAsg (dB gAbs (dCons (dVar 1) dNil)) (gNm 3)) (sSeq (sWhile WF [] (dTb (dOp opGt (dVar 3) (dC (.int 0)))) (sPar 2 3 (dVar 3) (dOp opMod (dB gInt (dCons (dVar 2) dNil)) (dVar 3)))) (sSeq (sIf (dTb (dOp opLt (dVar 1) (dC (.int 0)))) (sAsg (dOp (opO F 0 i_Ratio___sub__ opSub) (dC (.int 0)) (dVar 2)) (gNm 2)) sPass) (sRet (dTup (dCons (dOp opDiv (dVar 0) (dVar 2)) (dCons (dOp opDiv (dVar 1) (dVar 2)) dNil))))))))
noncomputable def c__law_sum (F Fi : FnTab) : DS := (sSeq (sIf (dAnd (dTb (dOp (eqO F 0 i_Ratio___eq__ opEqG) (dOp opIx (dVar 0) (dC (.int 1))) (dC (.int 1)))) (dTb (dOp (eqO F 0 i_Ratio___eq__ opEqG) (dOp opIx (dVar 1) (dC (.int 1))) (dC (.int 1))))) (sRet (dTup (dCons (dOp (opO F 0 i_Ratio___add__ opAdd) (dOp opIx (dVar 0) (dC (.int 0))) (dOp opIx (dVar 1) (dC (.int 0)))) (dCons (dC (.int 1)) dNil)))) sPass) (sRet (dCall F i__law_pair 2 (dCons (dOp (opO F 0 i_Ratio___add__ opAdd) (dOp (opO F 0 i_Ratio___mul__ opMul) (dOp opIx (dVar 0) (dC (.int 0))) (dOp opIx (dVar 1) (dC (.int 1)))) (dOp (opO F 0 i_Ratio___mul__ opMul) (dOp opIx (dVar 1) (dC (.int 0))) (dOp opIx (dVar 0) (dC (.int 1))))) (dCons (dOp (opO F 0 i_Ratio___mul__ opMul) (dOp opIx (dVar 0) (dC (.int 1))) (dOp opIx (dVar 1) (dC (.int 1)))) dNil)))))
noncomputable def c__law_by (F Fi : FnTab) : DS := (sSeq (sIf (dAnd (dTb (dOp (eqO F 0 i_Ratio___eq__ opEqG) (dOp opIx (dVar 0) (dC (.int 1))) (dC (.int 1)))) (dTb (dOp (eqO F 0 i_Ratio___eq__ opEqG) (dOp opIx (dVar 1) (dC (.int 1))) (dC (.int 1))))) (sRet (dTup (dCons (dOp (opO F 0 i_Ratio___mul__ opMul) (dOp opIx (dVar 0) (dC (.int 0))) (dOp opIx (dVar 1) (dC (.int 0)))) (dCons (dC (.int 1)) dNil)))) sPass) (sRet (dCall F i__law_pair 2 (dCons (dOp (opO F 0 i_Ratio___mul__ opMul) (dOp opIx (dVar 0) (dC (.int 0))) (dOp opIx (dVar 1) (dC (.int 0)))) (dCons (dOp (opO F 0 i_Ratio___mul__ opMul) (dOp opIx (dVar 0) (dC (.int 1))) (dOp opIx (dVar 1) (dC (.int 1)))) dNil)))))
noncomputable def c__law_is_integer (F Fi : FnTab) : DS := (sRet (dAndV (dIsT Ty.int (dVar 0)) (dNotV (dIsT Ty.bl (dVar 0)))))
noncomputable def c__law_same (F Fi : FnTab) : DS := (sSeq (sIf (dNot (dTr (truO F 0 i_Ratio___bool__) (dIsC SG.sub 0 (dVar 0)))) (sRet (dC (.bl false))) sPass) (sSeq (sIf (dOr (dNot (dTr (truO F 0 i_Ratio___bool__) (dCall F i__law_is_integer 1 (dCons (dAttr 0 0 (dVar 0)) dNil)))) (dNot (dTr (truO F 0 i_Ratio___bool__) (dCall F i__law_is_integer 1 (dCons (dAttr 0 1 (dVar 0)) dNil))))) (sRet (dC (.bl false))) sPass) (sRet (dAndV (dOp (eqO F 0 i_Ratio___eq__ opEqG) (dAttr 0 0 (dVar 0)) (dOp opIx (dVar 1) (dC (.int 0)))) (dOp (eqO F 0 i_Ratio___eq__ opEqG) (dAttr 0 1 (dVar 0)) (dOp opIx (dVar 1) (dC (.int 1))))))))
noncomputable def c__law_same_row (F Fi : FnTab) : DS := (sSeq (sIf (dOr (dNot (dTr (truO F 0 i_Ratio___bool__) (dIsT Ty.tup (dVar 0)))) (dTb (dOp opNeG (dB gLen (dCons (dVar 0) dNil)) (dB gLen (dCons (dVar 1) dNil))))) (sRet (dC (.bl false))) sPass) (sSeq (sFor [2] (gNm 2) (iRange1 (dB gLen (dCons (dVar 1) dNil))) (sIf (dNot (dTr (truO F 0 i_Ratio___bool__) (dCall F i__law_same 2 (dCons (dOp opIx (dVar 0) (dVar 2)) (dCons (dOp opIx (dVar 1) (dVar 2)) dNil))))) (sRet (dC (.bl false))) sPass)) (sRet (dC (.bl true)))))
noncomputable def c__law_same_table (F Fi : FnTab) : DS := (sSeq (sIf (dOr (dNot (dTr (truO F 0 i_Ratio___bool__) (dIsT Ty.tup (dVar 0)))) (dTb (dOp opNeG (dB gLen (dCons (dVar 0) dNil)) (dB gLen (dCons (dVar 1) dNil))))) (sRet (dC (.bl false))) sPass) (sSeq (sFor [2] (gNm 2) (iRange1 (dB gLen (dCons (dVar 1) dNil))) (sIf (dNot (dTr (truO F 0 i_Ratio___bool__) (dCall F i__law_same_row 2 (dCons (dOp opIx (dVar 0) (dVar 2)) (dCons (dOp opIx (dVar 1) (dVar 2)) dNil))))) (sRet (dC (.bl false))) sPass)) (sRet (dC (.bl true)))))
noncomputable def c__law_ratios (F Fi : FnTab) : DS := (sRet (dB gTuple (dCons (dComp [1] (gNm 1) (iAny (dVar 0)) tYesD (dMk (mkF Fi 0 i_Ratio___init__ 3 2) [] (dCons (dOp opIx (dVar 1) (dC (.int 0))) (dCons (dOp opIx (dVar 1) (dC (.int 1))) dNil)))) dNil)))
noncomputable def c__law_ratio_table (F Fi : FnTab) : DS := (sRet (dB gTuple (dCons (dComp [1] (gNm 1) (iAny (dVar 0)) tYesD (dCall F i__law_ratios 1 (dCons (dVar 1) dNil))) dNil)))
noncomputable def c__law_number (F Fi : FnTab) : DS := (sSeq (sAsg (dCall F i__law_draw 2 (dCons (dVar 0) (dCons (dC (.int 8)) dNil))) (gNm 2)) (sSeq (sIf (dTb (dOp opLt (dVar 2) (dC (.int 2)))) (sRet (dTup (dCons (dC (.int 0)) (dCons (dC (.int 1)) dNil)))) sPass) (sSeq (sIf (dTb (dOp opLt (dVar 2) (dC (.int 6)))) (sRet (dTup (dCons (dOp (opO F 0 i_Ratio___sub__ opSub) (dCall F i__law_draw 2 (dCons (dVar 0) (dCons (dC (.int 9)) dNil))) (dC (.int 4))) (dCons (dC (.int 1)) dNil)))) sPass) (sSeq (sIf (dAnd (dTb (dOp (eqO F 0 i_Ratio___eq__ opEqG) (dVar 2) (dC (.int 7)))) (dTb (dOp opGt (dVar 1) (dC (.int 0))))) (sSeq (sAsg (dOp (opO F 0 i_Ratio___mul__ opMul) (dCall F i__law_great 2 (dCons (dVar 0) (dCons (dVar 1) dNil))) (dOp (opO F 0 i_Ratio___sub__ opSub) (dC (.int 1)) (dOp (opO F 0 i_Ratio___mul__ opMul) (dC (.int 2)) (dCall F i__law_draw 2 (dCons (dVar 0) (dCons (dC (.int 2)) dNil)))))) (gNm 3)) (sRet (dCall F i__law_pair 2 (dCons (dVar 3) (dCons (dB gMax2 (dCons (dC (.int 1)) (dCons (dCall F i__law_great 2 (dCons (dVar 0) (dCons (dVar 1) dNil))) dNil))) dNil))))) sPass) (sRet (dCall F i__law_pair 2 (dCons (dOp (opO F 0 i_Ratio___sub__ opSub) (dCall F i__law_draw 2 (dCons (dVar 0) (dCons (dC (.int 19)) dNil))) (dC (.int 9))) (dCons (dOp (opO F 0 i_Ratio___add__ opAdd) (dC (.int 1)) (dCall F i__law_draw 2 (dCons (dVar 0) (dCons (dC (.int 6)) dNil)))) dNil))))))))
noncomputable def c__law_product (F Fi : FnTab) : DS := (sSeq (sAsg (dLstC dNil) (gNm 3)) (sSeq (sFor [0, 4, 5, 6, 7, 8] (gNm 4) (iAny (dVar 0)) (sSeq (sAsg (dLstC dNil) (gNm 5)) (sSeq (sFor [0, 6, 7, 8] (gNm 6) (iRange1 (dVar 2)) (sSeq (sAsg (dTup (dCons (dC (.int 0)) (dCons (dC (.int 1)) dNil))) (gNm 7)) (sSeq (sFor [0, 8] (gNm 8) (iRange1 (dB gLen (dCons (dVar 4) dNil))) (sIf (dAnd (dTb (dOp opNeG (dOp opIx (dOp opIx (dVar 4) (dVar 8)) (dC (.int 0))) (dC (.int 0)))) (dTb (dOp opNeG (dOp opIx (dOp opIx (dOp opIx (dVar 1) (dVar 8)) (dVar 6)) (dC (.int 0))) (dC (.int 0))))) (sAsg (dCall F i__law_sum 2 (dCons (dVar 7) (dCons (dCall F i__law_by 2 (dCons (dOp opIx (dVar 4) (dVar 8)) (dCons (dOp opIx (dOp opIx (dVar 1) (dVar 8)) (dVar 6)) dNil))) dNil))) (gNm 7)) sPass)) (sExpr (dApp (dVar 5) (dVar 7)))))) (sFrz 5 (sExpr (dApp (dVar 3) (dVar 5))))))) (sFrz 3 (sRet (dVar 3)))))
noncomputable def c__law_other (F Fi : FnTab) : DS := (sSeq (sAsg (dCall F i__law_number 2 (dCons (dVar 0) (dCons (dVar 1) dNil))) (gNm 2)) (sSeq (sIf (dTb (dOp (eqO F 0 i_Ratio___eq__ opEqG) (dOp opIx (dVar 2) (dC (.int 0))) (dC (.int 0)))) (sRet (dTup (dCons (dC (.int 1)) (dCons (dOp (opO F 0 i_Ratio___add__ opAdd) (dC (.int 1)) (dCall F i__law_draw 2 (dCons (dVar 0) (dCons (dC (.int 3)) dNil)))) dNil)))) sPass) (sRet (dVar 2))))
noncomputable def c__law_added (F Fi : FnTab) : DS := (sRet (dComp [3] (gNm 3) (iRange1 (dB gLen (dCons (dVar 0) dNil))) tYesD (dCall F i__law_sum 2 (dCons (dOp opIx (dVar 0) (dVar 3)) (dCons (dCall F i__law_by 2 (dCons (dVar 1) (dCons (dOp opIx (dVar 2) (dVar 3)) dNil))) dNil)))))
noncomputable def c__law_square (F Fi : FnTab) : DS := (sSeq (sAsg (dCompC [4] (gNm 4) (iRange1 (dVar 1)) tYesD (dCompC [8] (gNm 8) (iRange1 (dVar 1)) tYesD (dTup (dCons (dC (.int 0)) (dCons (dC (.int 1)) dNil))))) (gNm 3)) (sSeq (sFor [4, 5, 6, 7, 8] (gNm 4) (iRange1 (dVar 1)) (sSub (dCall F i__law_other 2 (dCons (dVar 0) (dCons (dVar 2) dNil))) (dOp opIx (dVar 3) (dVar 4)) (dVar 4))) (sSeq (sIf (dTb (dOp opLt (dVar 1) (dC (.int 2)))) (sFrz2 3 (sRet (dVar 3))) sPass) (sSeq (sFor [2, 4, 5, 6, 7, 8] (gNm 5) (iRange1 (dCall F i__law_draw 2 (dCons (dVar 0) (dCons (dC (.int 13)) dNil)))) (sSeq (sAsg (dCall F i__law_draw 2 (dCons (dVar 0) (dCons (dVar 1) dNil))) (gNm 6)) (sSeq (sAsg (dOp opMod (dOp (opO F 0 i_Ratio___add__ opAdd) (dOp (opO F 0 i_Ratio___add__ opAdd) (dVar 6) (dC (.int 1))) (dCall F i__law_draw 2 (dCons (dVar 0) (dCons (dOp (opO F 0 i_Ratio___sub__ opSub) (dVar 1) (dC (.int 1))) dNil)))) (dVar 1)) (gNm 7)) (sIf (dTb (dOp (eqO F 0 i_Ratio___eq__ opEqG) (dCall F i__law_draw 2 (dCons (dVar 0) (dCons (dC (.int 4)) dNil))) (dC (.int 0)))) (sSwp (dOp opIx (dVar 3) (dVar 7)) (dOp opIx (dVar 3) (dVar 6)) (dVar 3) (dVar 6) (dVar 3) (dVar 7)) (sSub (dCall F i__law_added 3 (dCons (dOp opIx (dVar 3) (dVar 6)) (dCons (dCall F i__law_number 2 (dCons (dVar 0) (dCons (dC (.int 0)) dNil))) (dCons (dOp opIx (dVar 3) (dVar 7)) dNil)))) (dVar 3) (dVar 6)))))) (sFrz2 3 (sRet (dVar 3)))))))
noncomputable def c__law_dependent (F Fi : FnTab) : DS := (sSeq (sAsg (dB gLen (dCons (dVar 1) dNil)) (gNm 2)) (sSeq (sAsg (dCall F i__law_draw 2 (dCons (dVar 0) (dCons (dVar 2) dNil))) (gNm 3)) (sSeq (sAsg (dComp [5] (gNm 5) (iRange1 (dVar 2)) tYesD (dTup (dCons (dC (.int 0)) (dCons (dC (.int 1)) dNil)))) (gNm 4)) (sSeq (sFor [2, 5] (gNm 5) (iRange1 (dVar 2)) (sIf (dTb (dOp opNeG (dVar 5) (dVar 3))) (sAsg (dCall F i__law_added 3 (dCons (dVar 4) (dCons (dCall F i__law_number 2 (dCons (dVar 0) (dCons (dC (.int 0)) dNil))) (dCons (dOp opIx (dVar 1) (dVar 5)) dNil)))) (gNm 4)) sPass)) (sRet (dOp (opO F 0 i_Ratio___add__ opAdd) (dOp (opO F 0 i_Ratio___add__ opAdd) (dSl (dVar 1) oNone (oSome (dVar 3))) (dLst (dCons (dVar 4) dNil))) (dSl (dVar 1) (oSome (dOp (opO F 0 i_Ratio___add__ opAdd) (dVar 3) (dC (.int 1)))) oNone)))))))
noncomputable def c__law_pairs (F Fi : FnTab) : DS := (sSeq (sIf (dOr (dNot (dTr (truO F 0 i_Ratio___bool__) (dIsT Ty.tup (dVar 0)))) (dTb (dOp opNeG (dB gLen (dCons (dVar 0) dNil)) (dVar 1)))) (sRet (dC .non)) sPass) (sSeq (sAsg (dLstC dNil) (gNm 2)) (sSeq (sFor [0, 3, 4, 5] (gNm 3) (iAny (dVar 0)) (sSeq (sIf (dOr (dNot (dTr (truO F 0 i_Ratio___bool__) (dIsT Ty.tup (dVar 3)))) (dTb (dOp opNeG (dB gLen (dCons (dVar 3) dNil)) (dVar 1)))) (sRet (dC .non)) sPass) (sSeq (sAsg (dLstC dNil) (gNm 4)) (sSeq (sFor [0, 3, 5] (gNm 5) (iAny (dVar 3)) (sSeq (sIf (dOr (dNot (dTr (truO F 0 i_Ratio___bool__) (dIsC SG.sub 0 (dVar 5)))) (dOr (dNot (dTr (truO F 0 i_Ratio___bool__) (dCall F i__law_is_integer 1 (dCons (dAttr 0 0 (dVar 5)) dNil)))) (dNot (dTr (truO F 0 i_Ratio___bool__) (dCall F i__law_is_integer 1 (dCons (dAttr 0 1 (dVar 5)) dNil)))))) (sRet (dC .non)) sPass) (sSeq (sIf (dOr (dTb (dOp opLt (dAttr 0 1 (dVar 5)) (dC (.int 1)))) (dTb (dOp opNeG (dCall F i__law_pair 2 (dCons (dAttr 0 0 (dVar 5)) (dCons (dAttr 0 1 (dVar 5)) dNil))) (dTup (dCons (dAttr 0 0 (dVar 5)) (dCons (dAttr 0 1 (dVar 5)) dNil)))))) (sRet (dC .non)) sPass) (sExpr (dApp (dVar 4) (dTup (dCons (dAttr 0 0 (dVar 5)) (dCons (dAttr 0 1 (dVar 5)) dNil)))))))) (sFrz 4 (sExpr (dApp (dVar 2) (dVar 4)))))))) (sFrz 2 (sRet (dVar 2))))))
noncomputable def c_law (F Fi : FnTab) : DS := (sSeq (sAsg (dCall F i__law_feed 1 (dCons (dVar 0) dNil)) (gNm 1)) (sSeq (sAsg (dOp (opO F 0 i_Ratio___mul__ opMul) (dC (.int 4)) (dB gInt (dCons (dOp (eqO F 0 i_Ratio___eq__ opEqG) (dCall F i__law_draw 2 (dCons (dVar 1) (dCons (dC (.int 3)) dNil))) (dC (.int 0))) dNil))) (gNm 2)) (sSeq (sAsg (dCall F i__law_draw 2 (dCons (dVar 1) (dCons (dC (.int 5)) dNil))) (gNm 3)) (sSeq (sIf (dTb (dOp (eqO F 0 i_Ratio___eq__ opEqG) (dCall F i__law_draw 2 (dCons (dVar 1) (dCons (dC (.int 16)) dNil))) (dC (.int 0)))) (sAsg (dC (.int 6)) (gNm 3)) sPass) (sSeq (sAsg (dCall F i__law_square 3 (dCons (dVar 1) (dCons (dVar 3) (dCons (dVar 2) dNil)))) (gNm 4)) (sSeq (sAsg (dCall F i__law_ratio_table 1 (dCons (dVar 4) dNil)) (gNm 5)) (sSeq (sAsg (dComp [9] (gNm 9) (iRange1 (dVar 3)) tYesD (dComp [10] (gNm 10) (iRange1 (dVar 3)) tYesD (dTup (dCons (dB gInt (dCons (dOp (eqO F 0 i_Ratio___eq__ opEqG) (dVar 9) (dVar 10)) dNil)) (dCons (dC (.int 1)) dNil))))) (gNm 6)) (sSeq (sFor [0, 2, 7, 8, 9, 10] (gNm 7) (iRange1 (dC (.int 2))) (sSeq (sAsg (dCall F i__law_pairs 2 (dCons (dCall F i_inverse 1 (dCons (dVar 5) dNil)) (dCons (dVar 3) dNil))) (gNm 8)) (sSeq (sIf (dOr (dTb (dOp opIs (dVar 8) (dC .non))) (dOr (dTb (dOp opNeG (dCall F i__law_product 3 (dCons (dVar 8) (dCons (dVar 4) (dCons (dVar 3) dNil)))) (dVar 6))) (dTb (dOp opNeG (dCall F i__law_product 3 (dCons (dVar 4) (dCons (dVar 8) (dCons (dVar 3) dNil)))) (dVar 6))))) (sRet (dC (.bl false))) sPass) (sIf (dAnd (dTb (dOp opGt (dVar 3) (dC (.int 0)))) (dTb (dOp opIsNot (dCall F i_inverse 1 (dCons (dCall F i__law_ratio_table 1 (dCons (dCall F i__law_dependent 2 (dCons (dVar 1) (dCons (dVar 4) dNil))) dNil)) dNil)) (dC .non)))) (sRet (dC (.bl false))) sPass)))) (sRet (dCall F i__law_same_table 2 (dCons (dVar 5) (dCons (dVar 4) dNil))))))))))))
noncomputable def DEFS : List Def := [⟨i_shared_part, 2, 2, c_shared_part⟩, ⟨i_Ratio___init__, 3, 4, c_Ratio___init__⟩, ⟨i_Ratio___add__, 2, 2, c_Ratio___add__⟩, ⟨i_Ratio___sub__, 2, 2, c_Ratio___sub__⟩, ⟨i_Ratio___mul__, 2, 2, c_Ratio___mul__⟩, ⟨i_Ratio___neg__, 1, 1, c_Ratio___neg__⟩, ⟨i_Ratio___eq__, 2, 2, c_Ratio___eq__⟩, ⟨i_Ratio___bool__, 1, 1, c_Ratio___bool__⟩, ⟨i_Ratio_over, 2, 2, c_Ratio_over⟩, ⟨i_unit, 1, 3, c_unit⟩, ⟨i_leading, 1, 3, c_leading⟩, ⟨i_scaled_row, 2, 3, c_scaled_row⟩, ⟨i_less, 3, 5, c_less⟩, ⟨i_Space___init__, 1, 1, c_Space___init__⟩, ⟨i_Space_rest, 2, 3, c_Space_rest⟩, ⟨i_Space_has, 2, 2, c_Space_has⟩, ⟨i_Space_grow, 2, 5, c_Space_grow⟩, ⟨i_space_of, 1, 3, c_space_of⟩, ⟨i_reduced, 1, 1, c_reduced⟩, ⟨i_rank, 1, 1, c_rank⟩, ⟨i_solve, 2, 11, c_solve⟩, ⟨i_inverse, 1, 3, c_inverse⟩, ⟨i__law_feed, 1, 2, c__law_feed⟩, ⟨i__law_draw, 2, 5, c__law_draw⟩, ⟨i__law_great, 2, 4, c__law_great⟩, ⟨i__law_pair, 2, 4, c__law_pair⟩, ⟨i__law_sum, 2, 2, c__law_sum⟩, ⟨i__law_by, 2, 2, c__law_by⟩, ⟨i__law_is_integer, 1, 1, c__law_is_integer⟩, ⟨i__law_same, 2, 2, c__law_same⟩, ⟨i__law_same_row, 2, 3, c__law_same_row⟩, ⟨i__law_same_table, 2, 3, c__law_same_table⟩, ⟨i__law_ratios, 1, 2, c__law_ratios⟩, ⟨i__law_ratio_table, 1, 2, c__law_ratio_table⟩, ⟨i__law_number, 2, 4, c__law_number⟩, ⟨i__law_product, 3, 9, c__law_product⟩, ⟨i__law_other, 2, 3, c__law_other⟩, ⟨i__law_added, 3, 4, c__law_added⟩, ⟨i__law_square, 3, 9, c__law_square⟩, ⟨i__law_dependent, 2, 6, c__law_dependent⟩, ⟨i__law_pairs, 2, 6, c__law_pairs⟩, ⟨i_law, 1, 11, c_law⟩]
noncomputable def FT (n : Nat) : FnTab := (tabP DEFS n).1
noncomputable def FI (n : Nat) : FnTab := (tabP DEFS n).2
theorem FT_shared_part (n : Nat) (ws : List W) (S : Sto) : FT (n + 1) i_shared_part ws S = runDef 2 2 (c_shared_part (FT n) (FI n)) ws S := rfl
theorem FT_Ratio___init__ (n : Nat) (ws : List W) (S : Sto) : FT (n + 1) i_Ratio___init__ ws S = runDef 4 3 (c_Ratio___init__ (FT n) (FI n)) ws S := rfl
theorem FT_Ratio___add__ (n : Nat) (ws : List W) (S : Sto) : FT (n + 1) i_Ratio___add__ ws S = runDef 2 2 (c_Ratio___add__ (FT n) (FI n)) ws S := rfl
theorem FT_Ratio___sub__ (n : Nat) (ws : List W) (S : Sto) : FT (n + 1) i_Ratio___sub__ ws S = runDef 2 2 (c_Ratio___sub__ (FT n) (FI n)) ws S := rfl
theorem FT_Ratio___mul__ (n : Nat) (ws : List W) (S : Sto) : FT (n + 1) i_Ratio___mul__ ws S = runDef 2 2 (c_Ratio___mul__ (FT n) (FI n)) ws S := rfl
theorem FT_Ratio___neg__ (n : Nat) (ws : List W) (S : Sto) : FT (n + 1) i_Ratio___neg__ ws S = runDef 1 1 (c_Ratio___neg__ (FT n) (FI n)) ws S := rfl
theorem FT_Ratio___eq__ (n : Nat) (ws : List W) (S : Sto) : FT (n + 1) i_Ratio___eq__ ws S = runDef 2 2 (c_Ratio___eq__ (FT n) (FI n)) ws S := rfl
theorem FT_Ratio___bool__ (n : Nat) (ws : List W) (S : Sto) : FT (n + 1) i_Ratio___bool__ ws S = runDef 1 1 (c_Ratio___bool__ (FT n) (FI n)) ws S := rfl
theorem FT_Ratio_over (n : Nat) (ws : List W) (S : Sto) : FT (n + 1) i_Ratio_over ws S = runDef 2 2 (c_Ratio_over (FT n) (FI n)) ws S := rfl
theorem FT_unit (n : Nat) (ws : List W) (S : Sto) : FT (n + 1) i_unit ws S = runDef 3 1 (c_unit (FT n) (FI n)) ws S := rfl
theorem FT_leading (n : Nat) (ws : List W) (S : Sto) : FT (n + 1) i_leading ws S = runDef 3 1 (c_leading (FT n) (FI n)) ws S := rfl
theorem FT_scaled_row (n : Nat) (ws : List W) (S : Sto) : FT (n + 1) i_scaled_row ws S = runDef 3 2 (c_scaled_row (FT n) (FI n)) ws S := rfl
theorem FT_less (n : Nat) (ws : List W) (S : Sto) : FT (n + 1) i_less ws S = runDef 5 3 (c_less (FT n) (FI n)) ws S := rfl
theorem FT_Space___init__ (n : Nat) (ws : List W) (S : Sto) : FT (n + 1) i_Space___init__ ws S = runDef 1 1 (c_Space___init__ (FT n) (FI n)) ws S := rfl
theorem FT_Space_rest (n : Nat) (ws : List W) (S : Sto) : FT (n + 1) i_Space_rest ws S = runDef 3 2 (c_Space_rest (FT n) (FI n)) ws S := rfl
theorem FT_Space_has (n : Nat) (ws : List W) (S : Sto) : FT (n + 1) i_Space_has ws S = runDef 2 2 (c_Space_has (FT n) (FI n)) ws S := rfl
theorem FT_Space_grow (n : Nat) (ws : List W) (S : Sto) : FT (n + 1) i_Space_grow ws S = runDef 5 2 (c_Space_grow (FT n) (FI n)) ws S := rfl
theorem FT_space_of (n : Nat) (ws : List W) (S : Sto) : FT (n + 1) i_space_of ws S = runDef 3 1 (c_space_of (FT n) (FI n)) ws S := rfl
theorem FT_reduced (n : Nat) (ws : List W) (S : Sto) : FT (n + 1) i_reduced ws S = runDef 1 1 (c_reduced (FT n) (FI n)) ws S := rfl
theorem FT_rank (n : Nat) (ws : List W) (S : Sto) : FT (n + 1) i_rank ws S = runDef 1 1 (c_rank (FT n) (FI n)) ws S := rfl
theorem FT_solve (n : Nat) (ws : List W) (S : Sto) : FT (n + 1) i_solve ws S = runDef 11 2 (c_solve (FT n) (FI n)) ws S := rfl
theorem FT_inverse (n : Nat) (ws : List W) (S : Sto) : FT (n + 1) i_inverse ws S = runDef 3 1 (c_inverse (FT n) (FI n)) ws S := rfl
theorem FT__law_feed (n : Nat) (ws : List W) (S : Sto) : FT (n + 1) i__law_feed ws S = runDef 2 1 (c__law_feed (FT n) (FI n)) ws S := rfl
theorem FT__law_draw (n : Nat) (ws : List W) (S : Sto) : FT (n + 1) i__law_draw ws S = runDef 5 2 (c__law_draw (FT n) (FI n)) ws S := rfl
theorem FT__law_great (n : Nat) (ws : List W) (S : Sto) : FT (n + 1) i__law_great ws S = runDef 4 2 (c__law_great (FT n) (FI n)) ws S := rfl
theorem FT__law_pair (n : Nat) (ws : List W) (S : Sto) : FT (n + 1) i__law_pair ws S = runDef 4 2 (c__law_pair (FT n) (FI n)) ws S := rfl
theorem FT__law_sum (n : Nat) (ws : List W) (S : Sto) : FT (n + 1) i__law_sum ws S = runDef 2 2 (c__law_sum (FT n) (FI n)) ws S := rfl
theorem FT__law_by (n : Nat) (ws : List W) (S : Sto) : FT (n + 1) i__law_by ws S = runDef 2 2 (c__law_by (FT n) (FI n)) ws S := rfl
theorem FT__law_is_integer (n : Nat) (ws : List W) (S : Sto) : FT (n + 1) i__law_is_integer ws S = runDef 1 1 (c__law_is_integer (FT n) (FI n)) ws S := rfl
theorem FT__law_same (n : Nat) (ws : List W) (S : Sto) : FT (n + 1) i__law_same ws S = runDef 2 2 (c__law_same (FT n) (FI n)) ws S := rfl
theorem FT__law_same_row (n : Nat) (ws : List W) (S : Sto) : FT (n + 1) i__law_same_row ws S = runDef 3 2 (c__law_same_row (FT n) (FI n)) ws S := rfl
theorem FT__law_same_table (n : Nat) (ws : List W) (S : Sto) : FT (n + 1) i__law_same_table ws S = runDef 3 2 (c__law_same_table (FT n) (FI n)) ws S := rfl
theorem FT__law_ratios (n : Nat) (ws : List W) (S : Sto) : FT (n + 1) i__law_ratios ws S = runDef 2 1 (c__law_ratios (FT n) (FI n)) ws S := rfl
theorem FT__law_ratio_table (n : Nat) (ws : List W) (S : Sto) : FT (n + 1) i__law_ratio_table ws S = runDef 2 1 (c__law_ratio_table (FT n) (FI n)) ws S := rfl
theorem FT__law_number (n : Nat) (ws : List W) (S : Sto) : FT (n + 1) i__law_number ws S = runDef 4 2 (c__law_number (FT n) (FI n)) ws S := rfl
theorem FT__law_product (n : Nat) (ws : List W) (S : Sto) : FT (n + 1) i__law_product ws S = runDef 9 3 (c__law_product (FT n) (FI n)) ws S := rfl
theorem FT__law_other (n : Nat) (ws : List W) (S : Sto) : FT (n + 1) i__law_other ws S = runDef 3 2 (c__law_other (FT n) (FI n)) ws S := rfl
theorem FT__law_added (n : Nat) (ws : List W) (S : Sto) : FT (n + 1) i__law_added ws S = runDef 4 3 (c__law_added (FT n) (FI n)) ws S := rfl
theorem FT__law_square (n : Nat) (ws : List W) (S : Sto) : FT (n + 1) i__law_square ws S = runDef 9 3 (c__law_square (FT n) (FI n)) ws S := rfl
theorem FT__law_dependent (n : Nat) (ws : List W) (S : Sto) : FT (n + 1) i__law_dependent ws S = runDef 6 2 (c__law_dependent (FT n) (FI n)) ws S := rfl
theorem FT__law_pairs (n : Nat) (ws : List W) (S : Sto) : FT (n + 1) i__law_pairs ws S = runDef 6 2 (c__law_pairs (FT n) (FI n)) ws S := rfl
theorem FT_law (n : Nat) (ws : List W) (S : Sto) : FT (n + 1) i_law ws S = runDef 11 1 (c_law (FT n) (FI n)) ws S := rfl
theorem FI_succ (n : Nat) : FI (n + 1) = FT n := rfl
end Lw
namespace Lw
open PySem PySem.Spec PyProof.Rows L2 Py
structure FeedP (cells : List Int) (a b c : Int) : Prop where
  n : cells.length ≤ 63
  a0 : 0 ≤ a
  b0 : 0 ≤ b
  c0 : 0 ≤ c
  c1 : c < 2147483647
  p : ∀ z ∈ cells, 0 ≤ z
def feedC (cells : List Int) (a b c : Int) : Ce := .lst [.d (.lst (cells.map D.int)), .d (.int a), .d (.int b), .d (.int c)]
def Feed (o : Ce) : Prop := ∃ cells a b c, o = feedC cells a b c ∧ FeedP cells a b c
theorem draw_ok {n i : Nat} {m : Int} {o : Ce} {S : Sto} {Q : W → Sto → Prop} (hn : 1 ≤ n) (ho : S[i]? = some o) (hf : Feed o) (h0 : 0 < m) (h1 : m < 2 ^ 60)
    (h : ∀ r o', 0 ≤ r → r < m → Feed o' → Q (.d (.int r)) (S.set i o')) : (FT n i__law_draw [.c i, .d (.int m)] S).sat Q := by
  obtain ⟨k, rfl⟩ : ∃ k, n = k + 1 := ⟨n - 1, by omega⟩
  obtain ⟨cells, a, b, c, rfl, F⟩ := hf
  have hi : i < S.length := (List.getElem?_eq_some_iff.mp ho).1
  have hm0 : ¬ m = 0 := by omega
  have hmd : ∀ x, Builtin.divisionGoesByPylong x m = false := fun x => divOkS (by omega)
  have g1 : ∀ o' : Ce, (List.set S i o')[i]? = some o' := fun o' => set_get hi
  have m1 : ∀ x, IntMulOk x 48271 := fun x => mulOkR (by decide)
  have m2 : ∀ x, IntMulOk x 69621 := fun x => mulOkR (by decide)
  have m3 : ∀ x, IntMulOk x 16807 := fun x => mulOkR (by decide)
  have d1 : ∀ x, Builtin.divisionGoesByPylong x 1024 = false := fun x => divOkS (by decide)
  have d2 : ∀ x, Builtin.divisionGoesByPylong x 65536 = false := fun x => divOkS (by decide)
  rw [FT__law_draw]
  refine run_sat rfl ?_
  unfold c__law_draw
  simp_all! [ho, feedC]
  refine rs_cut (fun e S1 => ∃ z a b c, e = [some (W.c i), some (W.d (D.int m)), some (W.d (D.lst (List.map D.int cells))), z, none] ∧ S1 = S.set i (feedC cells a b c) ∧ FeedP cells a b c) ?_ ?_
  · have same : ∃ z a' b' c', [some (W.c i), some (W.d (D.int m)), some (W.d (D.lst (List.map D.int cells))), (none : Option W), none] = [some (W.c i), some (W.d (D.int m)), some (W.d (D.lst (List.map D.int cells))), z, none] ∧ S = S.set i (feedC cells a' b' c') ∧ FeedP cells a' b' c' := by
      refine ⟨_, a, b, c, rfl, ?_, F⟩
      exact (set_same ho).symm
    dsimp! [ho, feedC]
    refine br_of (fun hb => ?_) (fun hb => ?_)
    · dsimp! [ho, feedC]
      refine br_of (fun ha => ?_) (fun ha => ?_)
      · obtain ⟨j, rfl⟩ : ∃ j : Nat, a = j := ⟨a.toNat, by have := F.a0; omega⟩
        have hj : j < cells.length := by omega
        have hc : (cells.map D.int |>.map W.d)[j]? = some (W.d (D.int cells[j])) := by simp [hj]
        have hz := F.p cells[j] (List.getElem_mem hj)
        generalize cells[j] = z at hc hz
        simp_all! [ho, feedC, atI_nat hc]
        simp_all! [ho, feedC, g1]
        refine br_of (fun hz1 => ?_) (fun hz1 => ?_)
        · dsimp! [g1, List.set_set]
          exact ⟨_, (j : Int) + 1, z, c, rfl, rfl, ⟨F.n, by omega, hz, F.c0, F.c1, F.p⟩⟩
        · dsimp! [g1, List.set_set, m1, m2]
          exact ⟨_, (j : Int) + 1, b, _, rfl, rfl, ⟨F.n, by omega, F.b0, Int.fmod_nonneg_of_pos _ (by decide), Int.fmod_lt_of_pos _ (by decide), F.p⟩⟩
      · dsimp!; exact same
    · dsimp!; exact same
  · rintro e1 S1 ⟨z, a, b, c, rfl, rfl, F⟩
    refine rs_cut (fun e S2 => e = [some (W.c i), some (W.d (D.int m)), some (W.d (D.lst (List.map D.int cells))), z, none] ∧ S2 = S.set i (feedC cells a b c)) ?_ ?_
    · dsimp! [g1, feedC]
      refine br_of (fun hb => ?_) (fun hb => ?_)
      · dsimp! [g1, feedC, hm0, hmd, List.set_set]
        rw [List.take_of_length_le (by simp)]
        refine h _ _ (Int.fmod_nonneg_of_pos _ h0) (Int.fmod_lt_of_pos _ h0) ⟨cells, a, _, c, rfl, ⟨F.n, F.a0, ?_, F.c0, F.c1, F.p⟩⟩
        rw [Int.fdiv_eq_ediv_of_nonneg _ (by omega)]
        exact Int.ediv_nonneg F.b0 (by omega)
      · dsimp!
        rfl
    · rintro e2 S2 ⟨rfl, rfl⟩
      simp_all! [g1, feedC, m3, List.set_set]
      have h3 := Int.fmod_nonneg_of_pos (c * 16807 + 12345) (b := 2147483629) (by decide)
      have h4 := Int.fmod_lt_of_pos (c * 16807 + 12345) (b := 2147483629) (by decide)
      generalize (c * 16807 + 12345).fmod 2147483629 = c' at h3 h4 ⊢

      dsimp! [g1, feedC, d1, d2, hm0, (mulOkR (by omega) : IntMulOk c' c')]
      rw [List.take_of_length_le (by simp)]
      exact h _ _ (Int.fmod_nonneg_of_pos _ h0) (Int.fmod_lt_of_pos _ h0) ⟨cells, a, b, c', rfl, ⟨F.n, F.a0, F.b0, h3, by omega, F.p⟩⟩
theorem cutL_map {α β : Type} (f : α → β) (xs : List α) (lo hi : Option Int) : cutL (xs.map f) lo hi = (cutL xs lo hi).map f := by
  unfold cutL
  rw [List.length_map, List.map_take, List.map_drop]
theorem cutL_le {α : Type} (xs : List α) (lo hi : Option Int) : (cutL xs lo hi).length ≤ xs.length := by
  unfold cutL
  simp
  omega
theorem feed_ok {n : Nat} {ns : List Int} {S : Sto} {Q : W → Sto → Prop} (hn : 1 ≤ n) (hl : ns.length ≤ 63) (h : ∀ o, Feed o → Q (.c S.length) (S ++ [o])) : (FT n i__law_feed [.d (.lsx (ns.map D.int))] S).sat Q := by
  obtain ⟨n, rfl⟩ : ∃ k, n = k + 1 := ⟨n - 1, by omega⟩
  rw [FT__law_feed]
  refine run_sat rfl ?_
  unfold c__law_feed
  have hc := cutL_le ns none (some 63)
  simp! [cutL_map]
  refine Py.comp_map (fun x => match x with | .d (.int i) => .d (.int i.natAbs) | w => w) ?_ trivial ?_
  · intro x hx
    simp only [List.mem_map] at hx
    obtain ⟨_, ⟨z, _, rfl⟩, rfl⟩ := hx
    refine ⟨_, rfl, ?_⟩
    simp!
    show W.d (.int (if z < 0 then -z else z)) = .d (.int z.natAbs)
    congr 2
    split <;> omega
  · have e : ((cutL ns none (some 63)).map D.int |>.map W.d).map (fun x => match x with | W.d (.int i) => W.d (.int i.natAbs) | w => w) = ((cutL ns none (some 63)).map fun z => D.int z.natAbs).map W.d := by simp
    rw [e]
    refine br_of (fun _ => ?_) (fun h => absurd (show _ ≤ _ by rw [List.length_map, List.length_map]; omega) h)
    rw [plainL_map]
    · have hsz : (4 : Nat) ≤ sizeLine := by decide
      simp! [hsz]
      show (if S.length < S.length then _ else _ : Prop)
      rw [if_neg (Nat.lt_irrefl _)]
      refine h _ ⟨(cutL ns none (some 63)).map fun z => (z.natAbs : Int), 0, 0, 7 + ns.length, ?_, ?_⟩
      · unfold feedC
        simp
      · exact ⟨by simp; omega, by decide, by decide, by omega, by omega, by intro z hz; simp at hz; omega⟩
end Lw

namespace Lw
open PySem PySem.Spec PyProof.Rows L2 Py
/-! fractions in lowest terms -/
abbrev RQ (q : Rat) : D := .obj 0 [.int q.num, .int q.den]
def Sz (k : Nat) (q : Rat) : Prop := q.num.natAbs < 2 ^ k ∧ q.den < 2 ^ k
theorem Sz.mono {k l : Nat} {q : Rat} (h : Sz k q) (hl : k ≤ l) : Sz l q := ⟨Nat.lt_of_lt_of_le h.1 (Nat.pow_le_pow_right (by decide) hl), Nat.lt_of_lt_of_le h.2 (Nat.pow_le_pow_right (by decide) hl)⟩
theorem sz_divInt {k : Nat} {a b : Int} (ha : a.natAbs < 2 ^ k) (hb : b.natAbs < 2 ^ k) (h0 : b ≠ 0) : Sz k (Rat.divInt a b) := by
  constructor
  · rw [Rat.num_divInt]
    refine Nat.lt_of_le_of_lt (Int.natAbs_ediv_le_natAbs _ _) ?_
    rw [Int.natAbs_mul]
    have : b.sign.natAbs = 1 := by
      rcases Int.lt_trichotomy b 0 with h | h | h
      · rw [Int.sign_eq_neg_one_of_neg h]; rfl
      · exact absurd h h0
      · rw [Int.sign_eq_one_of_pos h]; rfl
    rw [this, Nat.one_mul]
    exact ha
  · rw [Rat.den_divInt, if_neg h0]
    exact Nat.lt_of_le_of_lt (Nat.div_le_self _ _) hb
theorem na_mul {a b : Int} {k l : Nat} (ha : a.natAbs < 2 ^ k) (hb : b.natAbs < 2 ^ l) : (a * b).natAbs < 2 ^ (k + l) := by
  rw [Int.natAbs_mul, Nat.pow_add]
  exact Nat.mul_lt_mul'' ha hb
theorem na_add {a b : Int} {k : Nat} (ha : a.natAbs < 2 ^ k) (hb : b.natAbs < 2 ^ k) : (a + b).natAbs < 2 ^ (k + 1) := by
  rw [Nat.pow_succ]
  omega
theorem na_sub {a b : Int} {k : Nat} (ha : a.natAbs < 2 ^ k) (hb : b.natAbs < 2 ^ k) : (a - b).natAbs < 2 ^ (k + 1) := by
  rw [Nat.pow_succ]
  omega
theorem na_up {a : Int} {k l : Nat} (ha : a.natAbs < 2 ^ k) (h : k ≤ l) : a.natAbs < 2 ^ l := Nat.lt_of_lt_of_le ha (Nat.pow_le_pow_right (by decide) h)
theorem add_divInt (p q : Rat) : p + q = Rat.divInt (p.num * q.den + q.num * p.den) (p.den * q.den) := by
  rw [Rat.add_def', ← Rat.divInt_ofNat, Int.natCast_mul]
theorem sub_divInt (p q : Rat) : p - q = Rat.divInt (p.num * q.den - q.num * p.den) (p.den * q.den) := by
  rw [Rat.sub_def', ← Rat.divInt_ofNat, Int.natCast_mul]
theorem mul_divInt (p q : Rat) : p * q = Rat.divInt (p.num * q.num) (p.den * q.den) := by
  rw [Rat.mul_def', ← Rat.divInt_ofNat, Int.natCast_mul]
theorem neg_divInt' (p : Rat) : -p = Rat.divInt (-p.num) p.den := by
  rw [← Rat.neg_num, ← Rat.neg_den p, Rat.num_divInt_den]
theorem den_ne (q : Rat) : (q.den : Int) ≠ 0 := by have := q.den_pos; omega
theorem sz_add {k l m : Nat} {p q : Rat} (hp : Sz k p) (hq : Sz l q) (h : k + l + 1 ≤ m) : Sz m (p + q) := by
  rw [add_divInt]
  have e1 := na_mul hp.1 (show (q.den : Int).natAbs < 2 ^ l from hq.2)
  have e2 := na_mul hq.1 (show (p.den : Int).natAbs < 2 ^ k from hp.2)
  rw [Nat.add_comm l k] at e2
  have e3 := na_mul (show (p.den : Int).natAbs < 2 ^ k from hp.2) (show (q.den : Int).natAbs < 2 ^ l from hq.2)
  exact (sz_divInt (na_add e1 e2) (na_up e3 (Nat.le_succ _)) (Int.mul_ne_zero (den_ne p) (den_ne q))).mono h
theorem sz_sub {k l m : Nat} {p q : Rat} (hp : Sz k p) (hq : Sz l q) (h : k + l + 1 ≤ m) : Sz m (p - q) := by
  rw [sub_divInt]
  have e1 := na_mul hp.1 (show (q.den : Int).natAbs < 2 ^ l from hq.2)
  have e2 := na_mul hq.1 (show (p.den : Int).natAbs < 2 ^ k from hp.2)
  rw [Nat.add_comm l k] at e2
  have e3 := na_mul (show (p.den : Int).natAbs < 2 ^ k from hp.2) (show (q.den : Int).natAbs < 2 ^ l from hq.2)
  exact (sz_divInt (na_sub e1 e2) (na_up e3 (Nat.le_succ _)) (Int.mul_ne_zero (den_ne p) (den_ne q))).mono h
theorem sz_mul {k l m : Nat} {p q : Rat} (hp : Sz k p) (hq : Sz l q) (h : k + l ≤ m) : Sz m (p * q) := by
  rw [mul_divInt]
  have e3 := na_mul (show (p.den : Int).natAbs < 2 ^ k from hp.2) (show (q.den : Int).natAbs < 2 ^ l from hq.2)
  exact (sz_divInt (na_mul hp.1 hq.1) e3 (Int.mul_ne_zero (den_ne p) (den_ne q))).mono h
theorem sz_neg {k : Nat} {p : Rat} (hp : Sz k p) : Sz k (-p) := ⟨by rw [Rat.neg_num, Int.natAbs_neg]; exact hp.1, by rw [Rat.neg_den]; exact hp.2⟩
/-- the steps of a remainder walk -/
def gmu (x y : Nat) : Nat := if y = 0 then 0 else 1 + Nat.log2 (x * y) + (if x < y then 1 else 0)
theorem gmu_lt {x y : Nat} (h : y ≠ 0) : gmu y (x % y) < gmu x y := by
  unfold gmu
  rw [if_neg h]
  by_cases hr : x % y = 0
  · rw [if_pos hr]; omega
  · rw [if_neg hr]
    have hlt := Nat.mod_lt x (Nat.pos_of_ne_zero h)
    rw [if_neg (show ¬ y < x % y by omega)]
    by_cases hx : x < y
    · rw [if_pos hx, Nat.mod_eq_of_lt hx, Nat.mul_comm]; omega
    · rw [if_neg hx]
      have h1 : x % y + x % y ≤ x := by
        have := Nat.mod_add_div x y
        have h2 : y ≤ y * (x / y) := Nat.le_mul_of_pos_right _ (Nat.div_pos (by omega) (by omega))
        omega
      have h2 : (y * (x % y)) * 2 ≤ x * y := by
        calc (y * (x % y)) * 2 = (x % y + x % y) * y := by grind
          _ ≤ x * y := Nat.mul_le_mul_right _ h1
      have h3 : y * (x % y) ≠ 0 := Nat.mul_ne_zero h hr
      have h4 : Nat.log2 ((y * (x % y)) * 2) = Nat.log2 (y * (x % y)) + 1 := by
        rw [Nat.mul_comm, Nat.log2_two_mul h3]
      have h5 : Nat.log2 ((y * (x % y)) * 2) ≤ Nat.log2 (x * y) := by
        rw [Nat.le_log2 (by omega)]
        exact Nat.le_trans (Nat.log2_self_le (by omega)) h2
      omega
theorem gmu_le {x y k : Nat} (hx : x < 2 ^ k) (hy : y < 2 ^ k) : gmu x y ≤ 2 * k + 2 := by
  unfold gmu
  split
  · omega
  · have : Nat.log2 (x * y) ≤ 2 * k := by
      by_cases h : x * y = 0
      · rw [h]; exact Nat.zero_le _
      · refine Nat.le_of_lt ((Nat.log2_lt h).mpr ?_)
        rw [Nat.two_mul, Nat.pow_add]
        exact Nat.mul_lt_mul'' hx hy
    split <;> omega
theorem fmod_nat (x y : Nat) : (x : Int).fmod (y : Int) = ((x % y : Nat) : Int) := by
  rw [Int.fmod_eq_emod_of_nonneg _ (by omega)]
  rfl
theorem shared_ok {n x y : Nat} {S : Sto} {Q : W → Sto → Prop} {k : Nat} (hn : 1 ≤ n) (hx : x < 2 ^ k) (hy : y < 2 ^ k) (hk : k ≤ 100000000) (h : Q (.d (.int (Nat.gcd x y : Nat))) S) : (FT n i_shared_part [.d (.int x), .d (.int y)] S).sat Q := by
  obtain ⟨n, rfl⟩ : ∃ k, n = k + 1 := ⟨n - 1, by omega⟩
  rw [FT_shared_part]
  refine run_sat rfl ?_
  unfold c_shared_part
  refine rs_cut (fun e S1 => e = [some (.d (.int (Nat.gcd x y : Nat))), some (.d (.int 0))] ∧ S1 = S) ?_ ?_
  · rw [q_while]
    have hm := gmu_le hx hy
    refine while_sat (fun m e S1 => ∃ x' y' : Nat, e = [some (.d (.int x')), some (.d (.int y'))] ∧ S1 = S ∧ Nat.gcd x' y' = Nat.gcd x y ∧ m = gmu x' y') (gmu x y) (by unfold WF; omega) ⟨x, y, rfl, rfl, rfl, rfl⟩ ?_
    rintro m e S1 ⟨x', y', rfl, rfl, hg, rfl⟩
    dsimp!
    split
    · rename_i hc
      have hy0 : y' ≠ 0 := by simpa using hc
      have hyi : ¬ ((y' : Int) = 0) := by omega
      dsimp! [hyi, fmod_nat]
      refine ⟨_, gmu_lt hy0, y', x' % y', ?_⟩
      exact ⟨rfl, (Nat.gcd_comm _ _).trans ((Nat.gcd_rec y' x').symm.trans ((Nat.gcd_comm _ _).trans hg)), rfl⟩
    · rename_i hc
      have hy0 : y' = 0 := by
        have : (y' : Int) = 0 := by simpa using hc
        omega
      subst hy0
      rw [Nat.gcd_zero_right] at hg
      rw [hg]
      rfl
  · rintro e S1 ⟨rfl, rfl⟩
    dsimp!
    rw [List.take_length]
    exact h
theorem abs_eq (i : Int) : (if i < 0 then -i else i) = (i.natAbs : Int) := by split <;> omega
theorem sign_na {b : Int} (a : Int) (h0 : b ≠ 0) : (b.sign * a).natAbs = a.natAbs := by
  rw [Int.natAbs_mul]
  rcases Int.lt_trichotomy b 0 with h | h | h
  · rw [Int.sign_eq_neg_one_of_neg h]; simp
  · exact absurd h h0
  · rw [Int.sign_eq_one_of_pos h]; simp
theorem num_eq (a b : Int) : (Rat.divInt a b).num = b.sign * a / ((Nat.gcd a.natAbs b.natAbs : Nat) : Int) := by
  rw [Rat.num_divInt, Nat.gcd_comm]
  rfl
theorem den_eq {a b : Int} (h0 : b ≠ 0) : ((Rat.divInt a b).den : Int) = (b.natAbs : Int) / ((Nat.gcd a.natAbs b.natAbs : Nat) : Int) := by
  rw [Rat.den_divInt, if_neg h0, Nat.gcd_comm]
  rfl
/-- Ratio(a, b) -/
theorem mk_ok {n : Nat} {a b : Int} {S : Sto} {Q : W → Sto → Prop} {k : Nat} (hn : 3 ≤ n) (ha : a.natAbs < 2 ^ k) (hb : b.natAbs < 2 ^ k) (hk : k ≤ 60000000) (h0 : b ≠ 0) (h : Q (.d (RQ (Rat.divInt a b))) S) : (mkF (FI n) 0 i_Ratio___init__ 3 2 [.d (.int a), .d (.int b)] S).sat Q := by
  obtain ⟨n, rfl⟩ : ∃ k, n = k + 3 := ⟨n - 3, by omega⟩
  have key : (FT (n + 2) i_Ratio___init__ [.c S.length, .d (.int a), .d (.int b)] (S ++ [.ins 0 []])).sat fun w S' => w = .d .non ∧ S' = S ++ [.ins 0 [.d (.int (Rat.divInt a b).num), .d (.int (Rat.divInt a b).den)]] := by
    rw [FT_Ratio___init__]
    refine run_sat rfl ?_
    unfold c_Ratio___init__
    simp_all! [h0]
    refine rs_cut (fun e S1 => S1 = S ++ [.ins 0 []] ∧ e = [some (.c S.length), some (.d (.int (b.sign * a))), some (.d (.int b.natAbs)), none]) ?_ ?_
    · dsimp!
      refine br_of (fun hb0 => ?_) (fun hb0 => ?_)
      · dsimp!
        rw [Int.sign_eq_neg_one_of_neg hb0, Int.ofNat_natAbs_of_nonpos (by omega), Int.neg_one_mul]
      · dsimp!
        rw [Int.sign_eq_one_of_pos (by omega), Int.natAbs_of_nonneg (by omega), Int.one_mul]
    · rintro e S1 ⟨rfl, rfl⟩
      have hg0 : Nat.gcd a.natAbs b.natAbs ≠ 0 := Nat.ne_of_gt (Nat.gcd_pos_of_pos_right _ (by omega))
      have hgi : ¬ ((Nat.gcd a.natAbs b.natAbs : Nat) : Int) = 0 := by omega
      have hgs : Nat.gcd a.natAbs b.natAbs < 2 ^ k := Nat.lt_of_le_of_lt (Nat.le_of_dvd (by omega) (Nat.gcd_dvd_right _ _)) hb
      have e0 : (S ++ [Ce.ins 0 []])[S.length]? = some (.ins 0 []) := by simp
      have e1 : ∀ o, (S ++ [Ce.ins 0 []]).set S.length o = S ++ [o] := fun o => by simp
      have e2 : ∀ o : Ce, (S ++ [o])[S.length]? = some o := fun o => by simp
      have e3 : ∀ o o' : Ce, (S ++ [o]).set S.length o' = S ++ [o'] := fun o o' => by simp
      simp_all! [abs_eq, sign_na a h0]
      refine shared_ok (k := k) (by omega) ha hb (by omega) ?_
      dsimp! [hgi, e0, e1, e2, e3]
      rw [List.take_of_length_le (by simp), Int.fdiv_eq_ediv_of_nonneg _ (by omega), Int.fdiv_eq_ediv_of_nonneg _ (by omega), num_eq a b, den_eq h0]
  obtain ⟨w, S', e, rfl, rfl⟩ := sat_get key
  unfold mkF
  rw [if_pos (by rfl), show FI (n + 3) = FT (n + 2) from rfl, e]
  simp only [List.getElem?_append_right (Nat.le_refl _), Nat.sub_self, List.getElem?_cons_zero, plainL, List.length_cons, List.length_nil, and_self, if_true, List.take_left, sat_ok, List.take_append_of_le_length (Nat.le_refl _), List.take_length]
  exact h
theorem rq_attr0 {q : Rat} {S : Sto} : attr 0 0 (.d (RQ q)) S = .ok (.d (.int q.num)) S := rfl
theorem rq_attr1 {q : Rat} {S : Sto} : attr 0 1 (.d (RQ q)) S = .ok (.d (.int q.den)) S := rfl
theorem add_ok {n : Nat} {p q : Rat} {S : Sto} {Q : W → Sto → Prop} {k l : Nat} (hn : 4 ≤ n) (hp : Sz k p) (hq : Sz l q) (hk : k + l + 1 ≤ 60000000) (h : Q (.d (RQ (p + q))) S) : (FT n i_Ratio___add__ [.d (RQ p), .d (RQ q)] S).sat Q := by
  obtain ⟨n, rfl⟩ : ∃ k, n = k + 1 := ⟨n - 1, by omega⟩
  rw [FT_Ratio___add__]
  refine run_sat rfl ?_
  unfold c_Ratio___add__
  have e1 := na_mul hp.1 (show (q.den : Int).natAbs < 2 ^ l from hq.2)
  have e2 := na_mul hq.1 (show (p.den : Int).natAbs < 2 ^ k from hp.2)
  have e3 := na_mul (show (p.den : Int).natAbs < 2 ^ k from hp.2) (show (q.den : Int).natAbs < 2 ^ l from hq.2)
  have m1 : IntMulOk p.num q.den := mulOk hp.1 (show (q.den : Int).natAbs < 2 ^ l from hq.2) (by omega)
  have m2 : IntMulOk q.num p.den := mulOk hq.1 (show (p.den : Int).natAbs < 2 ^ k from hp.2) (by omega)
  have m3 : IntMulOk p.den q.den := mulOk (show (p.den : Int).natAbs < 2 ^ k from hp.2) (show (q.den : Int).natAbs < 2 ^ l from hq.2) (by omega)
  rw [Nat.add_comm l k] at e2
  dsimp! [m1, m2, m3]
  refine mk_ok (k := k + l + 1) (by omega) (na_add e1 e2) (na_up e3 (Nat.le_succ _)) hk (Int.mul_ne_zero (den_ne p) (den_ne q)) ?_
  dsimp!
  rw [List.take_length, ← add_divInt]
  exact h
theorem sub_ok {n : Nat} {p q : Rat} {S : Sto} {Q : W → Sto → Prop} {k l : Nat} (hn : 4 ≤ n) (hp : Sz k p) (hq : Sz l q) (hk : k + l + 1 ≤ 60000000) (h : Q (.d (RQ (p - q))) S) : (FT n i_Ratio___sub__ [.d (RQ p), .d (RQ q)] S).sat Q := by
  obtain ⟨n, rfl⟩ : ∃ k, n = k + 1 := ⟨n - 1, by omega⟩
  rw [FT_Ratio___sub__]
  refine run_sat rfl ?_
  unfold c_Ratio___sub__
  have e1 := na_mul hp.1 (show (q.den : Int).natAbs < 2 ^ l from hq.2)
  have e2 := na_mul hq.1 (show (p.den : Int).natAbs < 2 ^ k from hp.2)
  have e3 := na_mul (show (p.den : Int).natAbs < 2 ^ k from hp.2) (show (q.den : Int).natAbs < 2 ^ l from hq.2)
  have m1 : IntMulOk p.num q.den := mulOk hp.1 (show (q.den : Int).natAbs < 2 ^ l from hq.2) (by omega)
  have m2 : IntMulOk q.num p.den := mulOk hq.1 (show (p.den : Int).natAbs < 2 ^ k from hp.2) (by omega)
  have m3 : IntMulOk p.den q.den := mulOk (show (p.den : Int).natAbs < 2 ^ k from hp.2) (show (q.den : Int).natAbs < 2 ^ l from hq.2) (by omega)
  rw [Nat.add_comm l k] at e2
  dsimp! [m1, m2, m3]
  refine mk_ok (k := k + l + 1) (by omega) (na_sub e1 e2) (na_up e3 (Nat.le_succ _)) hk (Int.mul_ne_zero (den_ne p) (den_ne q)) ?_
  dsimp!
  rw [List.take_length, ← sub_divInt]
  exact h
theorem mul_ok {n : Nat} {p q : Rat} {S : Sto} {Q : W → Sto → Prop} {k l : Nat} (hn : 4 ≤ n) (hp : Sz k p) (hq : Sz l q) (hk : k + l ≤ 60000000) (h : Q (.d (RQ (p * q))) S) : (FT n i_Ratio___mul__ [.d (RQ p), .d (RQ q)] S).sat Q := by
  obtain ⟨n, rfl⟩ : ∃ k, n = k + 1 := ⟨n - 1, by omega⟩
  rw [FT_Ratio___mul__]
  refine run_sat rfl ?_
  unfold c_Ratio___mul__
  have e3 := na_mul (show (p.den : Int).natAbs < 2 ^ k from hp.2) (show (q.den : Int).natAbs < 2 ^ l from hq.2)
  have m1 : IntMulOk p.num q.num := mulOk hp.1 hq.1 (by omega)
  have m3 : IntMulOk p.den q.den := mulOk (show (p.den : Int).natAbs < 2 ^ k from hp.2) (show (q.den : Int).natAbs < 2 ^ l from hq.2) (by omega)
  dsimp! [m1, m3]
  refine mk_ok (k := k + l) (by omega) (na_mul hp.1 hq.1) e3 hk (Int.mul_ne_zero (den_ne p) (den_ne q)) ?_
  dsimp!
  rw [List.take_length, ← mul_divInt]
  exact h
theorem neg_ok {n : Nat} {p : Rat} {S : Sto} {Q : W → Sto → Prop} {k : Nat} (hn : 4 ≤ n) (hp : Sz k p) (hk : k ≤ 60000000) (h : Q (.d (RQ (-p))) S) : (FT n i_Ratio___neg__ [.d (RQ p)] S).sat Q := by
  obtain ⟨n, rfl⟩ : ∃ k, n = k + 1 := ⟨n - 1, by omega⟩
  rw [FT_Ratio___neg__]
  refine run_sat rfl ?_
  unfold c_Ratio___neg__
  dsimp!
  refine mk_ok (k := k) (by omega) (by rw [Int.natAbs_neg]; exact hp.1) (show (p.den : Int).natAbs < 2 ^ k from hp.2) hk (den_ne p) ?_
  dsimp!
  rw [List.take_length, ← neg_divInt']
  exact h
end Lw

namespace Lw
open PySem PySem.Spec PyProof.Rows L2 Py
/-! the law's own fractions -/
abbrev TQ (q : Rat) : D := .tup [.int q.num, .int q.den]
theorem great_ok {n i p : Nat} {P : Int} {o : Ce} {S : Sto} {Q : W → Sto → Prop} (hn : 2 ≤ n) (hP : P = p) (ho : S[i]? = some o) (hf : Feed o) (hp : p ≤ 1000) (h : ∀ r o', 0 ≤ r → r < 100000 ^ p → Feed o' → Q (.d (.int r)) (S.set i o')) : (FT n i__law_great [.c i, .d (.int P)] S).sat Q := by
  obtain ⟨n, rfl⟩ : ∃ k, n = k + 1 := ⟨n - 1, by omega⟩
  have hi : i < S.length := (List.getElem?_eq_some_iff.mp ho).1
  have m1 : ∀ x, IntMulOk x 100000 := fun x => mulOkR (by decide)
  rw [FT__law_great]
  refine run_sat rfl ?_
  unfold c__law_great
  simp_all!
  refine rs_cut (fun e S1 => ∃ r o' x1 x3, e = [some (.c i), x1, some (.d (.int r)), x3] ∧ S1 = S.set i o' ∧ Feed o' ∧ 0 ≤ r ∧ r < 100000 ^ p) ?_ ?_
  · have hs : smallI P = true := smallI_of (by omega) (by omega)
    dsimp! [hs]
    refine for_sat (fun j e S1 => ∃ r o' x1 x3, e = [some (.c i), x1, some (.d (.int r)), x3] ∧ S1 = S.set i o' ∧ Feed o' ∧ 0 ≤ r ∧ r < 100000 ^ j) ?_ ?_ ?_
    · exact ⟨0, o, _, _, rfl, (set_same ho).symm, hf, by decide, by decide⟩
    · rintro j x e S1 hx ⟨r, o', x1, x3, rfl, rfl, hf, h0, h1⟩
      refine ⟨trivial, _, rfl, ?_⟩
      dsimp! [m1]
      refine draw_ok (by omega) (set_get hi) hf (by decide) (by decide) fun r' o'' h2 h3 hf' => ?_
      dsimp! [List.set_set]
      refine ⟨_, o'', _, _, rfl, rfl, hf', by omega, ?_⟩
      rw [Int.pow_succ]
      omega
    · rintro e S1 ⟨r, o', x1, x3, rfl, rfl, hf, h0, h1⟩
      have hl : (rng 0 P).length = p := by unfold rng; simp; omega
      rw [hl] at h1
      exact ⟨trivial, r, o', _, _, rfl, rfl, hf, h0, h1⟩
  · rintro e S1 ⟨r, o', x1, x3, rfl, rfl, hf, h0, h1⟩
    dsimp!
    rw [List.take_of_length_le (by simp)]
    exact h r o' h0 h1 hf
theorem pair_ok {n : Nat} {a b : Int} {S : Sto} {Q : W → Sto → Prop} {k : Nat} (hn : 1 ≤ n) (ha : a.natAbs < 2 ^ k) (hb : b.natAbs < 2 ^ k) (hk : k ≤ 60000000) (h0 : b ≠ 0) (h : Q (.d (TQ (Rat.divInt a b))) S) : (FT n i__law_pair [.d (.int a), .d (.int b)] S).sat Q := by
  obtain ⟨n, rfl⟩ : ∃ k, n = k + 1 := ⟨n - 1, by omega⟩
  have hg0 : Nat.gcd a.natAbs b.natAbs ≠ 0 := Nat.ne_of_gt (Nat.gcd_pos_of_pos_right _ (by omega))
  have hgs : Nat.gcd a.natAbs b.natAbs < 2 ^ k := Nat.lt_of_le_of_lt (Nat.le_of_dvd (by omega) (Nat.gcd_dvd_right _ _)) hb
  have ga : ((Nat.gcd a.natAbs b.natAbs : Nat) : Int) ∣ a := Int.ofNat_dvd_left.mpr (Nat.gcd_dvd_left _ _)
  have gb : ((Nat.gcd a.natAbs b.natAbs : Nat) : Int) ∣ b := Int.ofNat_dvd_left.mpr (Nat.gcd_dvd_right _ _)
  rw [FT__law_pair]
  refine run_sat rfl ?_
  unfold c__law_pair
  simp_all! [abs_eq]
  simp_all! [abs_eq]
  refine rs_cut (fun e S1 => S1 = S ∧ e = [some (.d (.int a)), some (.d (.int b)), some (.d (.int (Nat.gcd a.natAbs b.natAbs : Nat))), some (.d (.int 0))]) ?_ ?_
  · rw [q_while]
    have hm := gmu_le ha hb
    refine while_sat (fun m e S1 => ∃ x' y' : Nat, S1 = S ∧ e = [some (.d (.int a)), some (.d (.int b)), some (.d (.int x')), some (.d (.int y'))] ∧ Nat.gcd x' y' = Nat.gcd a.natAbs b.natAbs ∧ m = gmu x' y') (gmu a.natAbs b.natAbs) (by unfold WF; omega) ⟨_, _, rfl, rfl, rfl, rfl⟩ ?_
    rintro m e S1 ⟨x', y', rfl, rfl, hg, rfl⟩
    dsimp!
    split
    · rename_i hc
      have hy0 : y' ≠ 0 := by
        intro e
        subst e
        simp at hc
      have hyi : ¬ ((y' : Int) = 0) := by omega
      dsimp! [hyi, fmod_nat]
      refine ⟨_, gmu_lt hy0, y', x' % y', ?_⟩
      exact ⟨rfl, (Nat.gcd_comm _ _).trans ((Nat.gcd_rec y' x').symm.trans ((Nat.gcd_comm _ _).trans hg)), rfl⟩
    · rename_i hc
      have hy0 : y' = 0 := by simpa using hc
      subst hy0
      rw [Nat.gcd_zero_right] at hg
      rw [hg]
      rfl
  · rintro e S1 ⟨rfl, rfl⟩
    have hres : ∀ g : Int, g.natAbs = Nat.gcd a.natAbs b.natAbs → (a.fdiv g = (Rat.divInt a b).num ∧ b.fdiv g = (Rat.divInt a b).den) → (Q (.d (.tup [.int (a.fdiv g), .int (b.fdiv g)])) S1) := fun g _ hg => by
      rw [hg.1, hg.2]
      exact h
    refine rs_cut (fun e S2 => S2 = S1 ∧ ∃ g : Int, e = [some (.d (.int a)), some (.d (.int b)), some (.d (.int g)), some (.d (.int 0))] ∧ g.natAbs = Nat.gcd a.natAbs b.natAbs ∧ a.fdiv g = (Rat.divInt a b).num ∧ b.fdiv g = (Rat.divInt a b).den) ?_ ?_
    · dsimp!
      refine br_of (fun hb0 => ?_) (fun hb0 => ?_)
      · dsimp!
        refine ⟨_, rfl, by omega, ?_, ?_⟩
        · rw [num_eq, Int.sign_eq_neg_one_of_neg hb0, Int.zero_sub, Int.fdiv_eq_ediv_of_dvd ((Int.neg_dvd).mpr ga), Int.ediv_neg, Int.neg_one_mul, Int.neg_ediv_of_dvd ga]
        · rw [den_eq h0, Int.zero_sub, Int.fdiv_eq_ediv_of_dvd ((Int.neg_dvd).mpr gb), Int.ediv_neg, Int.ofNat_natAbs_of_nonpos (by omega), Int.neg_ediv_of_dvd gb]
      · dsimp!
        refine ⟨_, rfl, by omega, ?_, ?_⟩
        · rw [num_eq, Int.sign_eq_one_of_pos (by omega), Int.fdiv_eq_ediv_of_dvd ga, Int.one_mul]
        · rw [den_eq h0, Int.fdiv_eq_ediv_of_dvd gb, Int.natAbs_of_nonneg (by omega)]
    · rintro e S2 ⟨rfl, g, rfl, hg, h1, h2⟩
      have hgi : ¬ g = 0 := by omega
      have hsz : (2 : Nat) ≤ sizeLine := by decide
      dsimp! [hgi, hsz]
      rw [List.take_length, h1, h2]
      exact h
theorem sum_ok {n : Nat} {p q : Rat} {S : Sto} {Q : W → Sto → Prop} {k l : Nat} (hn : 2 ≤ n) (hp : Sz k p) (hq : Sz l q) (hk : k + l + 1 ≤ 60000000) (h : Q (.d (TQ (p + q))) S) : (FT n i__law_sum [.d (TQ p), .d (TQ q)] S).sat Q := by
  obtain ⟨n, rfl⟩ : ∃ k, n = k + 1 := ⟨n - 1, by omega⟩
  have hsz : (2 : Nat) ≤ sizeLine := by decide
  have e1 := na_mul hp.1 (show (q.den : Int).natAbs < 2 ^ l from hq.2)
  have e2 := na_mul hq.1 (show (p.den : Int).natAbs < 2 ^ k from hp.2)
  have e3 := na_mul (show (p.den : Int).natAbs < 2 ^ k from hp.2) (show (q.den : Int).natAbs < 2 ^ l from hq.2)
  have m1 : IntMulOk p.num q.den := mulOk hp.1 (show (q.den : Int).natAbs < 2 ^ l from hq.2) (by omega)
  have m2 : IntMulOk q.num p.den := mulOk hq.1 (show (p.den : Int).natAbs < 2 ^ k from hp.2) (by omega)
  have m3 : IntMulOk p.den q.den := mulOk (show (p.den : Int).natAbs < 2 ^ k from hp.2) (show (q.den : Int).natAbs < 2 ^ l from hq.2) (by omega)
  rw [Nat.add_comm l k] at e2
  have gen : (FT n i__law_pair [.d (.int (p.num * q.den + q.num * p.den)), .d (.int (p.den * q.den))] S).sat (cutR S.length Q) := by
    refine pair_ok (k := k + l + 1) (by omega) (na_add e1 e2) (na_up e3 (Nat.le_succ _)) hk (Int.mul_ne_zero (den_ne p) (den_ne q)) ?_
    rw [← add_divInt]
    show Q (.d (TQ (p + q))) (S.take S.length)
    rw [List.take_length]
    exact h
  rw [FT__law_sum]
  refine run_sat rfl ?_
  unfold c__law_sum
  refine rs_cut (fun e S1 => S1 = S ∧ e = [some (.d (TQ p)), some (.d (TQ q))]) ?_ ?_
  · dsimp!
    refine br_of (fun h1 => ?_) (fun h1 => ?_)
    · dsimp!
      refine br_of (fun h2 => ?_) (fun h2 => ?_)
      · dsimp! [hsz]
        have e : p + q = Rat.divInt (p.num + q.num) 1 := by rw [add_divInt, h1, h2]; simp
        have e4 : (p + q).num = p.num + q.num ∧ (p + q).den = 1 := by
          rw [e, Rat.num_divInt, Rat.den_divInt]
          simp
        rw [List.take_length]
        have := h
        unfold TQ at this
        rw [e4.1, e4.2] at this
        exact this
      · dsimp!
    · dsimp!
  · rintro e S1 ⟨rfl, rfl⟩
    dsimp! [m1, m2, m3]
    exact gen
theorem by_ok {n : Nat} {p q : Rat} {S : Sto} {Q : W → Sto → Prop} {k l : Nat} (hn : 2 ≤ n) (hp : Sz k p) (hq : Sz l q) (hk : k + l ≤ 60000000) (h : Q (.d (TQ (p * q))) S) : (FT n i__law_by [.d (TQ p), .d (TQ q)] S).sat Q := by
  obtain ⟨n, rfl⟩ : ∃ k, n = k + 1 := ⟨n - 1, by omega⟩
  have hsz : (2 : Nat) ≤ sizeLine := by decide
  have e3 := na_mul (show (p.den : Int).natAbs < 2 ^ k from hp.2) (show (q.den : Int).natAbs < 2 ^ l from hq.2)
  have m1 : IntMulOk p.num q.num := mulOk hp.1 hq.1 (by omega)
  have m3 : IntMulOk p.den q.den := mulOk (show (p.den : Int).natAbs < 2 ^ k from hp.2) (show (q.den : Int).natAbs < 2 ^ l from hq.2) (by omega)
  have gen : (FT n i__law_pair [.d (.int (p.num * q.num)), .d (.int (p.den * q.den))] S).sat (cutR S.length Q) := by
    refine pair_ok (k := k + l) (by omega) (na_mul hp.1 hq.1) e3 hk (Int.mul_ne_zero (den_ne p) (den_ne q)) ?_
    rw [← mul_divInt]
    show Q (.d (TQ (p * q))) (S.take S.length)
    rw [List.take_length]
    exact h
  rw [FT__law_by]
  refine run_sat rfl ?_
  unfold c__law_by
  refine rs_cut (fun e S1 => S1 = S ∧ e = [some (.d (TQ p)), some (.d (TQ q))]) ?_ ?_
  · dsimp!
    refine br_of (fun h1 => ?_) (fun h1 => ?_)
    · dsimp!
      refine br_of (fun h2 => ?_) (fun h2 => ?_)
      · have m4 : IntMulOk p.num q.num := m1
        dsimp! [hsz, m1]
        have e : p * q = Rat.divInt (p.num * q.num) 1 := by rw [mul_divInt, h1, h2]; simp
        have e4 : (p * q).num = p.num * q.num ∧ (p * q).den = 1 := by
          rw [e, Rat.num_divInt, Rat.den_divInt]
          simp
        rw [List.take_length]
        have := h
        unfold TQ at this
        rw [e4.1, e4.2] at this
        exact this
      · dsimp!
    · dsimp!
  · rintro e S1 ⟨rfl, rfl⟩
    dsimp! [m1, m3]
    exact gen
theorem isint_ok {n : Nat} {i : Int} {S : Sto} {Q : W → Sto → Prop} (hn : 1 ≤ n) (h : Q (.d (.bl true)) S) : (FT n i__law_is_integer [.d (.int i)] S).sat Q := by
  obtain ⟨n, rfl⟩ : ∃ k, n = k + 1 := ⟨n - 1, by omega⟩
  rw [FT__law_is_integer]
  refine run_sat rfl ?_
  unfold c__law_is_integer
  dsimp! [Bool.not_false]
  rw [List.take_length]
  exact h
theorem same_ok {n : Nat} {p q : Rat} {S : Sto} {Q : W → Sto → Prop} (hn : 2 ≤ n) (e : p = q) (h : Q (.d (.bl true)) S) : (FT n i__law_same [.d (RQ p), .d (TQ q)] S).sat Q := by
  subst e
  obtain ⟨n, rfl⟩ : ∃ k, n = k + 1 := ⟨n - 1, by omega⟩
  rw [FT__law_same]
  refine run_sat rfl ?_
  unfold c__law_same
  simp_all! [SG, beq_self_eq_true, Bool.not_true]
  refine rs_cut (fun e S1 => S1 = S ∧ e = [some (.d (RQ p)), some (.d (TQ p))]) ?_ ?_
  · dsimp!
    refine isint_ok (by omega) ?_
    dsimp! [Bool.not_true]
    refine isint_ok (by omega) ?_
    dsimp! [Bool.not_true]
  · rintro e S1 ⟨rfl, rfl⟩
    dsimp! [decide_true]
    rw [List.take_length]
    exact h
end Lw

namespace Lw
open PySem PySem.Spec PyProof.Rows L2 Py
abbrev TR (r : List Rat) : D := .tup (r.map RQ)
abbrev TT (t : List (List Rat)) : D := .tup (t.map TR)
theorem sz_zero : Sz 1 0 := ⟨by decide, by decide⟩
theorem truO_rq {n : Nat} {q : Rat} {S : Sto} (hn : 1 ≤ n) : truO (FT n) 0 i_Ratio___bool__ (.d (RQ q)) S = .ok (decide (q ≠ 0)) S := by
  obtain ⟨n, rfl⟩ : ∃ k, n = k + 1 := ⟨n - 1, by omega⟩
  have h : (FT (n + 1) i_Ratio___bool__ [.d (RQ q)] S).sat fun w S' => w = .d (.bl (decide (q ≠ 0))) ∧ S' = S := by
    rw [FT_Ratio___bool__]
    refine run_sat rfl ?_
    unfold c_Ratio___bool__
    simp!
    rw [List.take_length]
    refine ⟨?_, rfl⟩
    congr 2
    by_cases h : q = 0
    · subst h; rfl
    · have : q.num ≠ 0 := by simpa using h
      simp [h, this]
  obtain ⟨w, S', e, rfl, rfl⟩ := sat_get h
  show (if (0 : Nat) = 0 then (match FT (n + 1) i_Ratio___bool__ [.d (RQ q)] S' with
    | R.ok (W.d (D.bl b)) S' => R.ok b S'
    | _ => R.bad) else R.bad) = _
  rw [if_pos rfl, e]
def dotR : List Rat → List Rat → Rat
  | x :: xs, y :: ys => x * y + dotR xs ys
  | _, _ => 0
theorem dotR_take {r s : List Rat} {j : Nat} {a b : Rat} (ha : r[j]? = some a) (hb : s[j]? = some b) : dotR (r.take (j + 1)) (s.take (j + 1)) = dotR (r.take j) (s.take j) + a * b := by
  induction r generalizing s j with
  | nil => simp at ha
  | cons x r ih =>
    cases s with
    | nil => simp at hb
    | cons y s =>
      cases j with
      | zero =>
        have ha : x = a := by simpa using ha
        have hb : y = b := by simpa using hb
        subst ha hb
        simp [dotR, Rat.add_comm]
      | succ j =>
        have := ih (s := s) (j := j) (by simpa using ha) (by simpa using hb)
        simp only [List.take_succ_cons, dotR, this]
        grind
theorem dotR_min (r s : List Rat) : dotR (r.take (min r.length s.length)) (s.take (min r.length s.length)) = dotR r s := by
  induction r generalizing s with
  | nil => simp [dotR]
  | cons x r ih =>
    cases s with
    | nil => simp [dotR]
    | cons y s =>
      rw [List.length_cons, List.length_cons, Nat.add_min_add_right, List.take_succ_cons, List.take_succ_cons, dotR, dotR, ih]
/-! tables: rows of one width w -/
structure Tbl (k h w : Nat) (t : List (List Rat)) : Prop where
  len : t.length = h
  wid : ∀ r ∈ t, r.length = w
  sz : ∀ r ∈ t, ∀ q ∈ r, Sz k q
def colsR (w : Nat) (t : List (List Rat)) : List (List Rat) := if t = [] then [] else (List.range w).map fun j => t.map fun r => r.getD j 0
def timesR (w : Nat) (a b : List (List Rat)) : List (List Rat) := a.map fun r => (colsR w b).map fun c => dotR r c
theorem getD_some {r : List Rat} {j w : Nat} (hl : r.length = w) (hj : j < w) : r[j]? = some (r.getD j 0) := by
  rw [List.getD_eq_getElem?_getD, List.getElem?_eq_getElem (by omega)]
  rfl
theorem rng_map (w : Nat) : rng 0 (w : Int) = (List.range w).map fun j => W.d (.int (j : Nat)) := by
  unfold rng
  simp
theorem atI_row {r : List Rat} {j w : Nat} (hl : r.length = w) (hj : j < w) : atI ((r.map RQ).map W.d) (j : Int) = some (.d (RQ (r.getD j 0))) := by
  refine atI_nat ?_
  rw [List.getElem?_map, List.getElem?_map, getD_some hl hj]
  rfl
theorem cols_tbl {k h w : Nat} {t : List (List Rat)} (ht : Tbl k h w t) (h0 : 0 < h) : Tbl k w h (colsR w t) := by
  have hne : t ≠ [] := by
    rintro rfl
    have := ht.len
    simp at this
    omega
  unfold colsR
  rw [if_neg hne]
  refine ⟨by simp, ?_, ?_⟩
  · intro r hr
    obtain ⟨j, _, rfl⟩ := List.mem_map.mp hr
    rw [List.length_map, ht.len]
  · intro r hr q hq
    obtain ⟨j, hj, rfl⟩ := List.mem_map.mp hr
    obtain ⟨r', hr', rfl⟩ := List.mem_map.mp hq
    have hj := List.mem_range.mp hj
    have := getD_some (ht.wid r' hr') hj
    exact ht.sz r' hr' _ (List.mem_of_getElem? this)
end Lw

namespace Lw
open PySem PySem.Spec PyProof.Rows L2 Py
/-! sizes by a common denominator: q is a whole over d, |q| at most V -/
def Fr (d V : Nat) (q : Rat) : Prop := ∃ z : Int, q * (d : Rat) = (z : Rat) ∧ z.natAbs ≤ V * d
theorem cast_ne {d : Nat} (h : 0 < d) : (d : Rat) ≠ 0 := by
  intro e
  have : (d : Rat) = ((0 : Nat) : Rat) := by rw [e]; rfl
  have := Rat.natCast_inj.mp this
  omega
theorem Fr.zero {d V : Nat} : Fr d V 0 := ⟨0, by rw [Rat.zero_mul]; rfl, by simp⟩
theorem Fr.add {d V W : Nat} {p q : Rat} (hp : Fr d V p) (hq : Fr d W q) : Fr d (V + W) (p + q) := by
  obtain ⟨y, e1, h1⟩ := hp
  obtain ⟨z, e2, h2⟩ := hq
  refine ⟨y + z, by rw [Rat.add_mul, e1, e2, Rat.intCast_add], ?_⟩
  have : (y + z).natAbs ≤ y.natAbs + z.natAbs := Int.natAbs_add_le _ _
  rw [Nat.add_mul]
  omega
theorem Fr.mul {d e V W : Nat} {p q : Rat} (hp : Fr d V p) (hq : Fr e W q) : Fr (d * e) (V * W) (p * q) := by
  obtain ⟨y, e1, h1⟩ := hp
  obtain ⟨z, e2, h2⟩ := hq
  refine ⟨y * z, by rw [Rat.natCast_mul, Rat.intCast_mul, ← e1, ← e2]; grind, ?_⟩
  rw [Int.natAbs_mul]
  calc y.natAbs * z.natAbs ≤ (V * d) * (W * e) := Nat.mul_le_mul h1 h2
    _ = V * W * (d * e) := by grind
theorem Fr.mono {d V W : Nat} {q : Rat} (h : Fr d V q) (hv : V ≤ W) : Fr d W q := by
  obtain ⟨z, e, h1⟩ := h
  exact ⟨z, e, Nat.le_trans h1 (Nat.mul_le_mul_right _ hv)⟩
theorem Fr.up {d V : Nat} {q : Rat} (h : Fr d V q) (k : Nat) : Fr (d * k) V q := by
  obtain ⟨z, e, h1⟩ := h
  refine ⟨z * (k : Int), by rw [Rat.natCast_mul, Rat.intCast_mul, ← Rat.mul_assoc, e, Rat.intCast_natCast], ?_⟩
  rw [Int.natAbs_mul, ← Nat.mul_assoc]
  exact Nat.mul_le_mul_right _ h1
theorem Fr.up' {d V : Nat} {q : Rat} (h : Fr d V q) (k : Nat) : Fr (k * d) V q := by
  rw [Nat.mul_comm]
  exact h.up k
theorem Fr.neg {d V : Nat} {q : Rat} (h : Fr d V q) : Fr d V (-q) := by
  obtain ⟨z, e, h1⟩ := h
  exact ⟨-z, by rw [Rat.neg_mul, e, Rat.intCast_neg], by rw [Int.natAbs_neg]; exact h1⟩
theorem Fr.sz {d V k v : Nat} {q : Rat} (h : Fr d V q) (h0 : 0 < d) (hd : d < 2 ^ k) (hV : V ≤ 2 ^ v) : Sz (k + v) q := by
  obtain ⟨z, e, h1⟩ := h
  have e2 : q = Rat.divInt z d := by
    have hd0 := cast_ne h0
    rw [Rat.divInt_eq_div, Rat.intCast_natCast, ← e, Rat.div_def, Rat.mul_assoc, Rat.mul_inv_cancel _ hd0, Rat.mul_one]
  rw [e2]
  refine sz_divInt ?_ ?_ (by omega)
  · calc z.natAbs ≤ V * d := h1
      _ ≤ 2 ^ v * d := Nat.mul_le_mul_right _ hV
      _ < 2 ^ v * 2 ^ k := Nat.mul_lt_mul_of_pos_left hd (Nat.two_pow_pos v)
      _ = 2 ^ (k + v) := by rw [Nat.pow_add, Nat.mul_comm]
  · show d < 2 ^ (k + v)
    exact Nat.lt_of_lt_of_le hd (Nat.pow_le_pow_right (by decide) (by omega))
theorem Fr.of {q : Rat} {V : Nat} (h : q.num.natAbs ≤ V) : Fr q.den V q := by
  have e : q * (q.den : Rat) = (q.num : Rat) := by
    have h0 := cast_ne q.den_pos
    have h1 : q = (q.num : Rat) / (q.den : Rat) := by
      have := Rat.num_divInt_den q
      rw [Rat.divInt_eq_div, Rat.intCast_natCast] at this
      exact this.symm
    generalize (q.den : Rat) = d at h0 h1 ⊢
    generalize (q.num : Rat) = m at h1 ⊢
    rw [h1, Rat.div_def, Rat.mul_assoc, Rat.inv_mul_cancel _ h0, Rat.mul_one]
  refine ⟨q.num, e, ?_⟩
  have := q.den_pos
  exact Nat.le_trans h (Nat.le_mul_of_pos_right _ this)
/-- a row, a table -/
def FrL (d V : Nat) (r : List Rat) : Prop := ∀ q ∈ r, Fr d V q
theorem FrL.get {d V : Nat} {r : List Rat} (h : FrL d V r) {j : Nat} {q : Rat} (e : r[j]? = some q) : Fr d V q := h q (List.mem_of_getElem? e)
theorem dotR_fr {d e V W : Nat} {r c : List Rat} (hr : FrL d V r) (hc : FrL e W c) : ∀ n : Nat, Fr (d * e) (n * (V * W)) (dotR (r.take n) (c.take n)) := by
  induction r generalizing c with
  | nil => intro n; simp [dotR]; exact Fr.zero
  | cons x r ih =>
    cases c with
    | nil => intro n; cases n <;> simp [dotR] <;> exact Fr.zero
    | cons y c =>
      intro n
      cases n with
      | zero => simp [dotR]; exact Fr.zero
      | succ n =>
        rw [List.take_succ_cons, List.take_succ_cons, dotR]
        have h1 := (hr x (by simp)).mul (hc y (by simp))
        have h2 := ih (c := c) (fun q m => hr q (by simp [m])) (fun q m => hc q (by simp [m])) n
        exact (h1.add h2).mono (by rw [Nat.succ_mul]; omega)
theorem dotR_fr' {d e V W n : Nat} {r c : List Rat} (hr : FrL d V r) (hc : FrL e W c) (hn : r.length ≤ n) : Fr (d * e) (n * (V * W)) (dotR r c) := by
  have h := dotR_fr hr hc (min r.length c.length)
  rw [dotR_min] at h
  exact h.mono (Nat.mul_le_mul_right _ (by omega))
end Lw

namespace Lw
open PySem PySem.Spec PyProof.Rows L2 Py
/-! the law's own tables: lists of lists of pairs -/
abbrev LR (r : List Rat) : D := .lst (r.map TQ)
abbrev LT (t : List (List Rat)) : D := .lst (t.map LR)
theorem get_app {S D : Sto} {o : Ce} : (S ++ o :: D)[S.length]? = some o := by simp
theorem set_app {S D : Sto} {o o' : Ce} : (S ++ o :: D).set S.length o' = S ++ o' :: D := by simp
theorem take_app {S D : Sto} : (S ++ D).take S.length = S := by simp
theorem atI_map {α : Type} {l : List α} {f : α → W} {j : Nat} {a : α} (h : l[j]? = some a) : atI (l.map f) (j : Int) = some (f a) := atI_nat (by rw [List.getElem?_map, h]; rfl)
theorem atI_map2 {α : Type} {l : List α} {f : α → D} {j : Nat} {a : α} (h : l[j]? = some a) : atI ((l.map f).map W.d) (j : Int) = some (.d (f a)) := atI_nat (by rw [List.getElem?_map, List.getElem?_map, h]; rfl)
theorem rng_nat {w j : Nat} {x : W} (h : (rng 0 (w : Int))[j]? = some x) : j < w ∧ x = .d (.int (j : Nat)) := by
  rw [rng_map, List.getElem?_map] at h
  by_cases hj : j < w
  · rw [List.getElem?_range hj] at h
    exact ⟨hj, by simpa using h.symm⟩
  · rw [List.getElem?_eq_none (by simpa using hj)] at h
    cases h
theorem rng_len (w : Nat) : (rng 0 (w : Int)).length = w := by rw [rng_map]; simp
theorem same_row_ok {n : Nat} {r : List Rat} {S : Sto} {Q : W → Sto → Prop} (hn : 3 ≤ n) (hl : r.length ≤ 1000000) (h : Q (.d (.bl true)) S) : (FT n i__law_same_row [.d (TR r), .d (LR r)] S).sat Q := by
  obtain ⟨n, rfl⟩ : ∃ k, n = k + 1 := ⟨n - 1, by omega⟩
  have hs : smallI (r.length : Int) = true := smallI_of (by omega) (by omega)
  rw [FT__law_same_row]
  generalize hX : W.d (LR r) = X
  generalize hY : W.d (TR r) = Y
  refine run_sat rfl ?_
  subst hX hY
  unfold c__law_same_row
  simp_all! [Bool.not_true]

  with_reducible refine rs_cut (fun e S1 => S1 = S) ?_ ?_
  · simp! [hs]
    refine for_sat (fun j e S1 => S1 = S ∧ ∃ x, e = [some (.d (TR r)), some (.d (LR r)), x]) ⟨rfl, none, rfl⟩ ?_ ?_
    · rintro j x e S1 hx ⟨rfl, x2, rfl⟩
      obtain ⟨hj, rfl⟩ := rng_nat hx
      have hg : r[j]? = some r[j] := List.getElem?_eq_getElem hj
      refine ⟨trivial, _, rfl, ?_⟩
      simp! [atI_map2 (f := RQ) hg, atI_map2 (f := TQ) hg]
      refine same_ok (by omega) rfl ?_
      simp! [Bool.not_true]
      exact ⟨_, rfl⟩
    · rintro e S1 ⟨rfl, x, rfl⟩
      exact ⟨trivial, rfl⟩
  rintro e S1 rfl
  simp!
  rw [List.take_length]
  exact h
theorem same_table_ok {n : Nat} {t : List (List Rat)} {S : Sto} {Q : W → Sto → Prop} (hn : 4 ≤ n) (hl : t.length ≤ 1000000) (hw : ∀ r ∈ t, r.length ≤ 1000000) (h : Q (.d (.bl true)) S) : (FT n i__law_same_table [.d (TT t), .d (LT t)] S).sat Q := by
  obtain ⟨n, rfl⟩ : ∃ k, n = k + 1 := ⟨n - 1, by omega⟩
  have hs : smallI (t.length : Int) = true := smallI_of (by omega) (by omega)
  rw [FT__law_same_table]
  generalize hX : W.d (LT t) = X
  generalize hY : W.d (TT t) = Y
  refine run_sat rfl ?_
  subst hX hY
  unfold c__law_same_table
  simp_all! [Bool.not_true]

  with_reducible refine rs_cut (fun e S1 => S1 = S) ?_ ?_
  · simp! [hs]
    refine for_sat (fun j e S1 => S1 = S ∧ ∃ x, e = [some (.d (TT t)), some (.d (LT t)), x]) ⟨rfl, none, rfl⟩ ?_ ?_
    · rintro j x e S1 hx ⟨rfl, x2, rfl⟩
      obtain ⟨hj, rfl⟩ := rng_nat hx
      have hg : t[j]? = some t[j] := List.getElem?_eq_getElem hj
      have hm := hw _ (List.getElem_mem hj)
      refine ⟨trivial, _, rfl, ?_⟩
      simp! [atI_map2 (f := TR) hg, atI_map2 (f := LR) hg]
      refine same_row_ok (by omega) hm ?_
      simp! [Bool.not_true]
      exact ⟨_, rfl⟩
    · rintro e S1 ⟨rfl, x, rfl⟩
      exact ⟨trivial, rfl⟩
  rintro e S1 rfl
  simp!
  rw [List.take_length]
  exact h
theorem ratios_ok {n k : Nat} {r : List Rat} {S : Sto} {Q : W → Sto → Prop} (hn : 4 ≤ n) (hr : ∀ q ∈ r, Sz k q) (hk : k ≤ 60000000) (hl : r.length ≤ 1000000) (h : Q (.d (TR r)) S) : (FT n i__law_ratios [.d (LR r)] S).sat Q := by
  obtain ⟨n, rfl⟩ : ∃ k, n = k + 1 := ⟨n - 1, by omega⟩
  rw [FT__law_ratios]
  generalize hX : W.d (LR r) = X
  refine run_sat rfl ?_
  subst hX
  unfold c__law_ratios
  simp!
  refine comp_each (l := r) (mk := fun q => W.d (TQ q)) (f := RQ) ?_ ?_ trivial ?_
  · simp
  · intro q hq
    have z := hr q hq
    refine ⟨_, rfl, ?_⟩
    simp!
    refine mk_ok (k := k) (by omega) z.1 (show (q.den : Int).natAbs < 2 ^ k from z.2) hk (den_ne q) ?_
    rw [Rat.num_divInt_den]
    exact ⟨rfl, rfl⟩
  · have : r.length ≤ 16777216 := by omega
    simp! [plainL_map, this]
    rw [List.take_length]
    exact h
theorem ratio_table_ok {n k h w : Nat} {t : List (List Rat)} {S : Sto} {Q : W → Sto → Prop} (hn : 5 ≤ n) (ht : Tbl k h w t) (hk : k ≤ 60000000) (hh : h ≤ 1000000) (hw : w ≤ 1000000) (hq : Q (.d (TT t)) S) : (FT n i__law_ratio_table [.d (LT t)] S).sat Q := by
  obtain ⟨n, rfl⟩ : ∃ k, n = k + 1 := ⟨n - 1, by omega⟩
  rw [FT__law_ratio_table]
  generalize hX : W.d (LT t) = X
  refine run_sat rfl ?_
  subst hX
  unfold c__law_ratio_table
  simp!
  refine comp_each (l := t) (mk := fun q => W.d (LR q)) (f := TR) ?_ ?_ trivial ?_
  · simp
  · intro r hr
    refine ⟨_, rfl, ?_⟩
    simp!
    exact ratios_ok (k := k) (by omega) (ht.sz r hr) hk (by rw [ht.wid r hr]; exact hw) ⟨rfl, rfl⟩
  · have : t.length ≤ 16777216 := by rw [ht.len]; omega
    simp! [plainL_map, this]
    rw [List.take_length]
    exact hq
def unitR (w : Nat) : List (List Rat) := (List.range w).map fun i => (List.range w).map fun j => if i = j then 1 else 0
theorem unit_tbl (w : Nat) : Tbl 1 w w (unitR w) := by
  refine ⟨by simp [unitR], ?_, ?_⟩
  · intro r hr
    obtain ⟨i, _, rfl⟩ := List.mem_map.mp hr
    simp
  · intro r hr q hq
    obtain ⟨i, _, rfl⟩ := List.mem_map.mp hr
    obtain ⟨j, _, rfl⟩ := List.mem_map.mp hq
    split <;> exact ⟨by decide, by decide⟩
theorem unit_ok {n w : Nat} {W : Int} {S : Sto} {Q : Py.W → Sto → Prop} (hn : 4 ≤ n) (hW : W = w) (hw : w ≤ 1000000) (hq : Q (.d (TT (unitR w))) S) : (FT n i_unit [.d (.int W)] S).sat Q := by
  obtain ⟨n, rfl⟩ : ∃ k, n = k + 1 := ⟨n - 1, by omega⟩
  have hs : smallI W = true := smallI_of (by omega) (by omega)
  rw [FT_unit]
  refine run_sat rfl ?_
  unfold c_unit
  simp! [hs]
  refine comp_each (l := List.range w) (mk := fun j => Py.W.d (.int (j : Nat))) (f := fun i => TR ((List.range w).map fun j => if i = j then 1 else 0)) (by rw [hW]; exact rng_map w) ?_ trivial ?_
  · intro i hi
    refine ⟨_, rfl, ?_⟩
    simp! [hs]
    refine comp_each (l := List.range w) (mk := fun j => Py.W.d (.int (j : Nat))) (f := fun j => RQ (if i = j then 1 else 0)) (by rw [hW]; exact rng_map w) ?_ trivial ?_
    · intro j hj
      refine ⟨_, rfl, ?_⟩
      by_cases h : i = j
      · subst h
        simp!
        refine mk_ok (k := 1) (by omega) (by decide) (by decide) (by decide) (by decide) ?_
        rw [if_pos rfl]
        exact ⟨rfl, rfl⟩
      · have h2 : ¬ ((i : Int) = (j : Int)) := by omega
        simp! [h2]
        refine mk_ok (k := 1) (by omega) (by decide) (by decide) (by decide) (by decide) ?_
        rw [if_neg h]
        exact ⟨rfl, rfl⟩
    · have : w ≤ 16777216 := by omega
      simp! [plainL_map, this, List.length_range]
      simp
  · have : w ≤ 16777216 := by omega
    simp! [plainL_map, this, List.length_range]
    rw [List.take_length]
    have e : (List.range w).map (fun i => TR ((List.range w).map fun j => if i = j then 1 else 0)) = (unitR w).map TR := by
      unfold unitR
      rw [List.map_map]
      rfl
    rw [e]
    exact hq
end Lw

namespace Lw
open PySem PySem.Spec PyProof.Rows L2 Py
/-! == of data of one make -/
structure Lk {α : Type} [DecidableEq α] (f : α → D) (n : Nat) : Prop where
  ex : ∃ g : α → PyData, (∀ a, D.py (f a) = some (g a)) ∧ (∀ a, PyData.canLay0 (g a) = true) ∧ (∀ a, PyData.depth (g a) ≤ n) ∧ ∀ a b, PyData.eqv (g a) (g b) = decide (a = b)
section
variable {α β : Type} [DecidableEq α] [DecidableEq β]
theorem Lk.int : Lk D.int 0 := ⟨.int, fun _ => by rw [D.py], fun _ => by simp [PyData.canLay0], fun _ => by simp [PyData.depth], fun a b => by simp only [PyData.eqv]; by_cases h : a = b <;> simp [h]⟩
theorem pyL_map {f : α → D} {g : α → PyData} (h : ∀ a, D.py (f a) = some (g a)) : ∀ l : List α, D.pyL (l.map f) = some (l.map g)
  | [] => by rw [List.map_nil, D.pyL]; rfl
  | a :: l => by rw [List.map_cons, D.pyL, h a, pyL_map h l]; rfl
theorem lay_map {g : α → PyData} (h : ∀ a, PyData.canLay0 (g a) = true) : ∀ l : List α, PyData.canLayAll0 (l.map g) = true
  | [] => by simp [PyData.canLayAll0]
  | a :: l => by simp [PyData.canLayAll0, h a, lay_map h l]
theorem depth_map {g : α → PyData} {n : Nat} (h : ∀ a, PyData.depth (g a) ≤ n) : ∀ l : List α, PyData.depthAll (l.map g) ≤ n
  | [] => by simp [PyData.depthAll]
  | a :: l => by
    rw [List.map_cons, PyData.depthAll]
    exact Nat.max_le.mpr ⟨h a, depth_map h l⟩
theorem eqv_map {g : α → PyData} (h : ∀ a b, PyData.eqv (g a) (g b) = decide (a = b)) : ∀ l m : List α, PyData.eqvAll (l.map g) (m.map g) = decide (l = m)
  | [], [] => by simp [PyData.eqvAll]
  | [], b :: m => by simp [PyData.eqvAll]
  | a :: l, [] => by simp [PyData.eqvAll]
  | a :: l, b :: m => by
    rw [List.map_cons, List.map_cons, PyData.eqvAll, h a b, eqv_map h l m]
    by_cases h1 : a = b <;> by_cases h2 : l = m <;> simp [h1, h2]
theorem Lk.lst {f : α → D} {n : Nat} (h : Lk f n) : Lk (fun l : List α => D.lst (l.map f)) (n + 1) := by
  obtain ⟨g, h1, h2, h3, h4⟩ := h.ex
  refine ⟨fun l => .list (l.map g), fun l => ?_, fun l => ?_, fun l => ?_, fun l m => ?_⟩
  · rw [D.py, pyL_map h1]; rfl
  · rw [PyData.canLay0]; exact lay_map h2 l
  · rw [PyData.depth]; exact Nat.succ_le_succ (depth_map h3 l)
  · rw [PyData.eqv]; exact eqv_map h4 l m
theorem Lk.tup {f : α → D} {n : Nat} (h : Lk f n) : Lk (fun l : List α => D.tup (l.map f)) (n + 1) := by
  obtain ⟨g, h1, h2, h3, h4⟩ := h.ex
  refine ⟨fun l => .tuple (l.map g), fun l => ?_, fun l => ?_, fun l => ?_, fun l m => ?_⟩
  · rw [D.py, pyL_map h1]; rfl
  · rw [PyData.canLay0]; exact lay_map h2 l
  · rw [PyData.depth]; exact Nat.succ_le_succ (depth_map h3 l)
  · rw [PyData.eqv]; exact eqv_map h4 l m
theorem Lk.pair {f : α → D} {g : β → D} {n : Nat} (h : Lk f n) (k : Lk g n) : Lk (fun p : α × β => D.tup [f p.1, g p.2]) (n + 1) := by
  obtain ⟨u, h1, h2, h3, h4⟩ := h.ex
  obtain ⟨v, k1, k2, k3, k4⟩ := k.ex
  refine ⟨fun p => .tuple [u p.1, v p.2], fun p => ?_, fun p => ?_, fun p => ?_, fun p q => ?_⟩
  · simp [D.py, D.pyL, h1, k1]
  · simp [PyData.canLay0, PyData.canLayAll0, h2, k2]
  · simp only [PyData.depth, PyData.depthAll]
    have a := h3 p.1
    have b := k3 p.2
    omega
  · simp only [PyData.eqv, PyData.eqvAll, h4, k4, Bool.and_true]
    obtain ⟨a, b⟩ := p
    obtain ⟨c, d⟩ := q
    by_cases e1 : a = c <;> by_cases e2 : b = d <;> simp [e1, e2]
theorem Lk.eq {f : α → D} {n : Nat} (h : Lk f n) (hn : n ≤ 64) {a b : α} {S : Sto} (h0 : eqS (f a) (f b) = none) : opEqG (.d (f a)) (.d (f b)) S = .ok (.d (.bl (decide (a = b)))) S := by
  obtain ⟨g, h1, h2, h3, h4⟩ := h.ex
  have sh : ∀ a, shp (g a) = true := fun a => by
    show (_ && _) = true
    rw [h2 a, Bool.true_and, decide_eq_true_eq]
    exact Nat.le_trans (h3 a) hn
  unfold opEqG
  dsimp only
  rw [h0]
  dsimp only
  unfold opEqD wpy
  dsimp only
  rw [h1 a, h1 b]
  dsimp only
  rw [if_pos ⟨sh a, sh b⟩, h4]
theorem Lk.ne {f : α → D} {n : Nat} (h : Lk f n) (hn : n ≤ 64) {a b : α} {S : Sto} (h0 : eqS (f a) (f b) = none) : opNeG (.d (f a)) (.d (f b)) S = .ok (.d (.bl (!decide (a = b)))) S := by
  obtain ⟨g, h1, h2, h3, h4⟩ := h.ex
  have sh : ∀ a, shp (g a) = true := fun a => by
    show (_ && _) = true
    rw [h2 a, Bool.true_and, decide_eq_true_eq]
    exact Nat.le_trans (h3 a) hn
  unfold opNeG
  dsimp only
  rw [h0]
  dsimp only
  unfold opNeD wpy
  dsimp only
  rw [h1 a, h1 b]
  dsimp only
  rw [if_pos ⟨sh a, sh b⟩, h4]
theorem Lk.eqD {f : α → D} {n : Nat} (h : Lk f n) (hn : n ≤ 64) {a b : α} {S : Sto} : opEqD (.d (f a)) (.d (f b)) S = .ok (.d (.bl (decide (a = b)))) S := by
  obtain ⟨g, h1, h2, h3, h4⟩ := h.ex
  have sh : ∀ a, shp (g a) = true := fun a => by
    show (_ && _) = true
    rw [h2 a, Bool.true_and, decide_eq_true_eq]
    exact Nat.le_trans (h3 a) hn
  unfold opEqD wpy
  dsimp only
  rw [h1 a, h1 b]
  dsimp only
  rw [if_pos ⟨sh a, sh b⟩, h4]
theorem Lk.neD {f : α → D} {n : Nat} (h : Lk f n) (hn : n ≤ 64) {a b : α} {S : Sto} : opNeD (.d (f a)) (.d (f b)) S = .ok (.d (.bl (!decide (a = b)))) S := by
  obtain ⟨g, h1, h2, h3, h4⟩ := h.ex
  have sh : ∀ a, shp (g a) = true := fun a => by
    show (_ && _) = true
    rw [h2 a, Bool.true_and, decide_eq_true_eq]
    exact Nat.le_trans (h3 a) hn
  unfold opNeD wpy
  dsimp only
  rw [h1 a, h1 b]
  dsimp only
  rw [if_pos ⟨sh a, sh b⟩, h4]
end
end Lw

namespace Lw
open PySem PySem.Spec PyProof.Rows L2 Py
/-! sizes of rows (for laws without S_num) -/
abbrev Rz (k v : Nat) (r : List Rat) : Prop := ∃ d, 0 < d ∧ d < 2 ^ k ∧ FrL d (2 ^ v) r
theorem FrL.szs {d k v : Nat} {r : List Rat} (h : FrL d (2 ^ v) r) (h0 : 0 < d) (hd : d < 2 ^ k) : ∀ q ∈ r, Sz (k + v) q := fun q m => (h q m).sz h0 hd (Nat.le_refl _)
theorem rz_sz {k v : Nat} {r : List Rat} (h : Rz k v r) : ∀ q ∈ r, Sz (k + v) q := by
  obtain ⟨d, h0, h1, h2⟩ := h
  exact h2.szs h0 h1
theorem rz_mono {k k' v v' : Nat} {r : List Rat} (h : Rz k v r) (hk : k ≤ k') (hv : v ≤ v') : Rz k' v' r := by
  obtain ⟨d, d0, d1, h1⟩ := h
  exact ⟨d, d0, Nat.lt_of_lt_of_le d1 (Nat.pow_le_pow_right (by decide) hk), fun q m => (h1 q m).mono (Nat.pow_le_pow_right (by decide) hv)⟩
theorem rng0 {N i : Nat} {L : Int} {x : W} (hL : L = N) (h : (rng 0 L)[i]? = some x) : i < N ∧ x = .d (.int (i : Nat)) := by
  subst hL
  obtain ⟨h1, h2⟩ := rng_get (lo := 0) (f := fun i => 0 + (i : Int)) h
  refine ⟨by omega, ?_⟩
  rw [h2, Int.zero_add]
theorem rng0_len {N : Nat} {L : Int} (hL : L = N) : (rng 0 L).length = N := by
  subst hL
  unfold rng
  simp
end Lw

namespace Lw
open PySem PySem.Spec PyProof.Rows L2 Py
/-! sizes of rows and tables (as in S_sizes) -/
theorem rz_of_sz {k : Nat} : ∀ {r : List Rat}, (∀ q ∈ r, Sz k q) → Rz (k * r.length + 1) k r
  | [], _ => ⟨1, by decide, by simp, fun q m => by cases m⟩
  | q :: r, h => by
    obtain ⟨d, d0, d1, h1⟩ := rz_of_sz (r := r) fun p m => h p (by simp [m])
    obtain ⟨z1, z2⟩ := h q (by simp)
    refine ⟨d * q.den, Nat.mul_pos d0 q.den_pos, ?_, ?_⟩
    · rw [List.length_cons, Nat.mul_succ, show k * r.length + k + 1 = (k * r.length + 1) + k by omega, Nat.pow_add]
      exact Nat.mul_lt_mul'' d1 z2
    · intro p hp
      rw [List.mem_cons] at hp
      rcases hp with rfl | hp
      · exact (Fr.of (Nat.le_of_lt z1)).up' d
      · exact (h1 p hp).up q.den
theorem tz_of_sz {k : Nat} {t : List (List Rat)} (h : ∀ r ∈ t, ∀ q ∈ r, Sz k q) : ∃ d, 0 < d ∧ d < 2 ^ (k * t.flatten.length + 1) ∧ ∀ r ∈ t, FrL d (2 ^ k) r := by
  obtain ⟨d, d0, d1, h1⟩ := rz_of_sz (r := t.flatten) fun q m => by
    obtain ⟨r, hr, hq⟩ := List.mem_flatten.mp m
    exact h r hr q hq
  exact ⟨d, d0, d1, fun r hr q hq => h1 q (List.mem_flatten.mpr ⟨r, hr, hq⟩)⟩
theorem flat_len {N : Nat} : ∀ {t : List (List Rat)}, (∀ r ∈ t, r.length = N) → t.flatten.length = t.length * N
  | [], _ => by simp
  | r :: t, h => by
    rw [List.flatten_cons, List.length_append, flat_len fun p m => h p (by simp [m]), h r (by simp), List.length_cons, Nat.succ_mul]
    omega
end Lw

namespace Lw
open PySem PySem.Spec PyProof.Rows L2 Py
/-! spaces of rows: sums with numbers, leading places, reduced form, which is one -/
abbrev Vc := Nat → Rat
def vc (r : List Rat) : Vc := fun j => r.getD j 0
theorem vc_of {r : List Rat} {j : Nat} (h : r.length ≤ j) : vc r j = 0 := by
  unfold vc
  rw [List.getD_eq_getElem?_getD, List.getElem?_eq_none h]
  rfl
theorem vc_get {r : List Rat} {j : Nat} (h : j < r.length) : vc r j = r[j] := by
  unfold vc
  rw [List.getD_eq_getElem?_getD, List.getElem?_eq_getElem h]
  rfl
theorem vc_get? {r : List Rat} {j : Nat} (h : j < r.length) : r[j]? = some (vc r j) := by
  rw [vc_get h, List.getElem?_eq_getElem h]
theorem vc_ext {r s : List Rat} (hl : r.length = s.length) (h : ∀ j, vc r j = vc s j) : r = s := by
  refine List.ext_getElem? fun j => ?_
  by_cases hj : j < r.length
  · rw [vc_get? hj, vc_get? (by omega), h]
  · rw [List.getElem?_eq_none (by omega), List.getElem?_eq_none (by omega)]
/-- sums of the rows with numbers -/
inductive Sp (R : List (List Rat)) : Vc → Prop
  | zero : Sp R (fun _ => 0)
  | add {v : Vc} {r : List Rat} (c : Rat) (m : r ∈ R) (h : Sp R v) : Sp R (fun j => v j + c * vc r j)
theorem Sp.mem {R : List (List Rat)} {r : List Rat} (m : r ∈ R) : Sp R (vc r) := by
  have := Sp.add (R := R) 1 m .zero
  have e : (fun j => (0 : Rat) + 1 * vc r j) = vc r := by funext j; grind
  rwa [e] at this
theorem Sp.plus {R : List (List Rat)} {u v : Vc} (h : Sp R u) (k : Sp R v) : Sp R (fun j => u j + v j) := by
  induction k with
  | zero =>
    have e : (fun j => u j + 0) = u := by funext j; grind
    rw [e]
    exact h
  | @add v r c m _ ih =>
    have := Sp.add c m ih
    have e : (fun j => u j + v j + c * vc r j) = fun j => u j + (v j + c * vc r j) := by funext j; grind
    rwa [e] at this
theorem Sp.scal {R : List (List Rat)} {u : Vc} (c : Rat) (h : Sp R u) : Sp R (fun j => c * u j) := by
  induction h with
  | zero =>
    have e : (fun _ : Nat => c * (0 : Rat)) = fun _ => 0 := by funext j; grind
    rw [e]
    exact .zero
  | @add v r d m _ ih =>
    have := Sp.add (c * d) m ih
    have e : (fun j => c * v j + c * d * vc r j) = fun j => c * (v j + d * vc r j) := by funext j; grind
    rwa [e] at this
theorem Sp.less {R : List (List Rat)} {u v : Vc} (c : Rat) (h : Sp R u) (k : Sp R v) : Sp R (fun j => u j - c * v j) := by
  have := h.plus (k.scal (-c))
  have e : (fun j => u j + -c * v j) = fun j => u j - c * v j := by funext j; grind
  rwa [e] at this
theorem Sp.mono {R R' : List (List Rat)} (h : ∀ r ∈ R, Sp R' (vc r)) {v : Vc} (k : Sp R v) : Sp R' v := by
  induction k with
  | zero => exact .zero
  | @add v r c m _ ih => exact ih.plus ((h r m).scal c)
/-- the leading place -/
def ld (r : List Rat) : Nat := r.findIdx fun q => decide (q ≠ 0)
theorem ld_le (r : List Rat) : ld r ≤ r.length := List.findIdx_le_length
theorem ld_low {r : List Rat} {j : Nat} (h : j < ld r) : vc r j = 0 := by
  have hj : j < r.length := Nat.lt_of_lt_of_le h (ld_le r)
  have := List.not_of_lt_findIdx h
  rw [vc_get hj]
  simpa using this
theorem ld_ne {r : List Rat} (h : ld r < r.length) : vc r (ld r) ≠ 0 := by
  have : decide (r[ld r] ≠ 0) = true := List.findIdx_getElem (w := h)
  rw [vc_get h]
  exact of_decide_eq_true this
theorem ld_eq {r : List Rat} {p : Nat} (h0 : ∀ j, j < p → vc r j = 0) (h1 : vc r p ≠ 0) : ld r = p := by
  have hp : p < r.length := Nat.lt_of_not_le fun h => h1 (vc_of h)
  rcases Nat.lt_trichotomy (ld r) p with h | h | h
  · exact absurd (h0 _ h) (ld_ne (by omega))
  · exact h
  · exact absurd (ld_low h) h1
theorem ld_zero {r : List Rat} (h : ∀ j, vc r j = 0) : ld r = r.length := by
  have := ld_le r
  rcases Nat.lt_or_ge (ld r) r.length with h1 | h1
  · exact absurd (h _) (ld_ne h1)
  · omega
theorem zero_ld {r : List Rat} (h : ld r = r.length) (j : Nat) : vc r j = 0 := by
  by_cases hj : j < r.length
  · exact ld_low (by omega)
  · exact vc_of (by omega)
/-- reduced form -/
structure Rf (w : Nat) (K : List (List Rat)) : Prop where
  len : ∀ k ∈ K, k.length = w
  lt : ∀ k ∈ K, ld k < w
  one : ∀ k ∈ K, vc k (ld k) = 1
  srt : K.Pairwise fun a b => ld a < ld b ∧ vc a (ld b) = 0
theorem Rf.tail {w : Nat} {a : List Rat} {K : List (List Rat)} (h : Rf w (a :: K)) : Rf w K :=
  ⟨fun k m => h.len k (by simp [m]), fun k m => h.lt k (by simp [m]), fun k m => h.one k (by simp [m]), (List.pairwise_cons.mp h.srt).2⟩
theorem Rf.nil {w : Nat} : Rf w [] := ⟨by simp, by simp, by simp, .nil⟩
/-- the part of a row in the space -/
def pj : List (List Rat) → Vc → Vc
  | [], _ => fun _ => 0
  | k :: K, v => fun j => v (ld k) * vc k j + pj K v j
theorem pj_lin (K : List (List Rat)) (u v : Vc) (c : Rat) (j : Nat) : pj K (fun j => u j + c * v j) j = pj K u j + c * pj K v j := by
  induction K with
  | nil =>
    show (0 : Rat) = 0 + c * 0
    grind
  | cons k K ih =>
    simp only [pj]
    rw [ih]
    grind
theorem pj_zero' (K : List (List Rat)) {v : Vc} (h : ∀ k ∈ K, v (ld k) = 0) (j : Nat) : pj K v j = 0 := by
  induction K with
  | nil => rfl
  | cons k K ih =>
    simp only [pj]
    rw [ih fun k m => h k (by simp [m]), h k (by simp)]
    grind
theorem pj_self {w : Nat} : ∀ {K : List (List Rat)}, Rf w K → ∀ k ∈ K, ∀ j, pj K (vc k) j = vc k j
  | a :: K, h, k, m, j => by
    have hp := List.pairwise_cons.mp h.srt
    simp only [pj]
    rcases List.mem_cons.mp m with rfl | m
    · rw [h.one k (by simp), pj_zero' K fun b mb => (hp.1 b mb).2]
      grind
    · rw [ld_low (hp.1 k m).1, pj_self h.tail k m j]
      grind
theorem pj_of {w : Nat} {K : List (List Rat)} (h : Rf w K) {v : Vc} (s : Sp K v) (j : Nat) : pj K v j = v j := by
  induction s with
  | zero => exact pj_zero' K (fun _ _ => rfl) j
  | @add v r c m _ ih => rw [pj_lin, ih, pj_self h r m]
theorem pj_sp (K : List (List Rat)) (v : Vc) : ∀ {K' : List (List Rat)}, (∀ k ∈ K', k ∈ K) → Sp K (pj K' v)
  | [], _ => .zero
  | k :: K', h => by
    have h1 := pj_sp K v (K' := K') fun a m => h a (by simp [m])
    have h2 := h1.plus ((Sp.mem (h k (by simp))).scal (v (ld k)))
    have e : (fun j => pj K' v j + v (ld k) * vc k j) = pj (k :: K') v := by
      funext j
      simp only [pj]
      grind
    rwa [e] at h2
/-- at the leading places the part is the row -/
theorem pj_at {w : Nat} : ∀ {K : List (List Rat)}, Rf w K → ∀ k ∈ K, ∀ v : Vc, pj K v (ld k) = v (ld k)
  | a :: K, h, k, m, v => by
    have hp := List.pairwise_cons.mp h.srt
    simp only [pj]
    rcases List.mem_cons.mp m with rfl | m
    · have z : pj K v (ld k) = 0 := by
        have : ∀ (K' : List (List Rat)), (∀ b ∈ K', ld k < ld b) → pj K' v (ld k) = 0 := fun K' => by
          induction K' with
          | nil => intro _; rfl
          | cons b K' ih =>
            intro hb
            simp only [pj]
            rw [ih fun c mc => hb c (by simp [mc]), ld_low (hb b (by simp))]
            grind
        exact this K fun b mb => (hp.1 b mb).1
      rw [h.one k (by simp), z]
      grind
    · rw [(hp.1 k m).2, pj_at h.tail k m v]
      grind
/-- a row of the space is 0 ahead of ... : its first place is a leading one -/
theorem sp_lead {w : Nat} {K : List (List Rat)} (h : Rf w K) {v : Vc} (s : Sp K v) {p : Nat} (h0 : ∀ j, j < p → v j = 0) (h1 : v p ≠ 0) : ∃ k ∈ K, ld k = p := by
  by_cases hx : ∃ k ∈ K, ld k = p
  · exact hx
  · exfalso
    apply h1
    rw [← pj_of h s]
    have : ∀ (K' : List (List Rat)), (∀ k ∈ K', k ∈ K) → pj K' v p = 0 := fun K' => by
      induction K' with
      | nil => intro _; rfl
      | cons k K' ih =>
        intro hk
        simp only [pj]
        rw [ih fun c mc => hk c (by simp [mc])]
        have hne : ld k ≠ p := fun e => hx ⟨k, hk k (by simp), e⟩
        rcases Nat.lt_or_ge (ld k) p with h2 | h2
        · rw [h0 _ h2]
          grind
        · rw [ld_low (r := k) (j := p) (by omega)]
          grind
    exact this K fun _ m => m
theorem srt_ext : ∀ {a b : List Nat}, a.Pairwise (· < ·) → b.Pairwise (· < ·) → (∀ x, x ∈ a ↔ x ∈ b) → a = b
  | [], [], _, _, _ => rfl
  | [], y :: b, _, _, h => absurd ((h y).mpr (by simp)) (by simp)
  | x :: a, [], _, _, h => absurd ((h x).mp (by simp)) (by simp)
  | x :: a, y :: b, ha, hb, h => by
    have h1 := List.pairwise_cons.mp ha
    have h2 := List.pairwise_cons.mp hb
    have e : x = y := by
      have hx : x ∈ y :: b := (h x).mp (by simp)
      have hy : y ∈ x :: a := (h y).mpr (by simp)
      rcases List.mem_cons.mp hx with e | m
      · exact e
      · rcases List.mem_cons.mp hy with e | m'
        · exact e.symm
        · have := h2.1 x m
          have := h1.1 y m'
          omega
    subst e
    rw [srt_ext h1.2 h2.2 fun z => ⟨fun m => ?_, fun m => ?_⟩]
    · rcases List.mem_cons.mp ((h z).mp (by simp [m])) with e | m'
      · have := h1.1 z m
        omega
      · exact m'
    · rcases List.mem_cons.mp ((h z).mpr (by simp [m])) with e | m'
      · have := h2.1 z m
        omega
      · exact m'
theorem Rf.leads {w : Nat} {K : List (List Rat)} (h : Rf w K) : (K.map ld).Pairwise (· < ·) := by
  rw [List.pairwise_map]
  exact h.srt.imp fun x => x.1
theorem map_inj_on {α β : Type} {f : α → β} : ∀ {a b : List α}, a.map f = b.map f → (∀ x ∈ a, ∀ y ∈ b, f x = f y → x = y) → a = b
  | [], [], _, _ => rfl
  | [], _ :: _, e, _ => by simp at e
  | _ :: _, [], e, _ => by simp at e
  | x :: a, y :: b, e, h => by
    rw [List.map_cons, List.map_cons, List.cons.injEq] at e
    rw [h x (by simp) y (by simp) e.1, map_inj_on e.2 fun x mx y my => h x (by simp [mx]) y (by simp [my])]
theorem rf_delta {w : Nat} : ∀ {A : List (List Rat)}, Rf w A → ∀ a ∈ A, ∀ b ∈ A, ld a ≠ ld b → vc a (ld b) = 0
  | x :: A, h, a, ma, b, mb, hne => by
    have hp := List.pairwise_cons.mp h.srt
    rcases List.mem_cons.mp ma with rfl | ma
    · rcases List.mem_cons.mp mb with rfl | mb
      · exact absurd rfl hne
      · exact (hp.1 b mb).2
    · rcases List.mem_cons.mp mb with e | mb
      · rw [e]
        exact ld_low (hp.1 a ma).1
      · exact rf_delta h.tail a ma b mb hne
/-- the table in reduced form is one -/
theorem rf_one {w : Nat} {K K' : List (List Rat)} (h : Rf w K) (h' : Rf w K') (s : ∀ v, Sp K v ↔ Sp K' v) : K = K' := by
  have ls : ∀ {A B : List (List Rat)}, Rf w A → Rf w B → (∀ v, Sp A v ↔ Sp B v) → ∀ b ∈ B, ∃ a ∈ A, ld a = ld b := fun {A B} ha hb hs b mb =>
    sp_lead ha ((hs _).mpr (Sp.mem mb)) (fun j hj => ld_low hj) (by rw [hb.one b mb]; decide)
  have e : K.map ld = K'.map ld := srt_ext h.leads h'.leads fun x => by
    simp only [List.mem_map]
    constructor
    · rintro ⟨k, m, rfl⟩
      obtain ⟨k', m', e⟩ := ls h' h (fun v => (s v).symm) k m
      exact ⟨k', m', e⟩
    · rintro ⟨k, m, rfl⟩
      obtain ⟨k', m', e⟩ := ls h h' s k m
      exact ⟨k', m', e⟩
  refine map_inj_on e fun k m k' m' hl => ?_
  have hd : Sp K fun j => vc k j - 1 * vc k' j := (Sp.mem m).less 1 ((s _).mpr (Sp.mem m'))
  have z : ∀ a ∈ K, vc k (ld a) - 1 * vc k' (ld a) = 0 := fun a ma => by
    by_cases q : ld k = ld a
    · rw [← q, h.one k m, hl, h'.one k' m']
      grind
    · obtain ⟨b, mb, eb⟩ := ls h' h (fun v => (s v).symm) a ma
      have h1 := rf_delta h k m a ma q
      have h2 := rf_delta h' k' m' b mb (by omega)
      rw [eb] at h2
      rw [h1, h2]
      grind
  refine vc_ext (by rw [h.len k m, h'.len k' m']) fun j => ?_
  have e1 := pj_of h hd j
  rw [pj_zero' K z] at e1
  grind
/-! one row more -/
/-- a row less a multiple of another one -/
def lessR (r : List Rat) (c : Rat) (s : List Rat) : List Rat := List.zipWith (fun a b => a - c * b) r s
theorem lessR_len {r s : List Rat} {c : Rat} {w : Nat} (hr : r.length = w) (hs : s.length = w) : (lessR r c s).length = w := by
  unfold lessR
  rw [List.length_zipWith, hr, hs, Nat.min_self]
theorem lessR_vc {r s : List Rat} {c : Rat} {w : Nat} (hr : r.length = w) (hs : s.length = w) (j : Nat) : vc (lessR r c s) j = vc r j - c * vc s j := by
  by_cases hj : j < w
  · rw [vc_get (by rw [lessR_len hr hs]; exact hj), vc_get (by omega), vc_get (by omega)]
    unfold lessR
    rw [List.getElem_zipWith]
  · rw [vc_of (by rw [lessR_len hr hs]; omega), vc_of (by omega), vc_of (by omega)]
    grind
theorem lessR_zero {r s : List Rat} {w : Nat} (hr : r.length = w) (hs : s.length = w) : lessR r 0 s = r :=
  vc_ext (by rw [lessR_len hr hs, hr]) fun j => by
    rw [lessR_vc hr hs]
    grind
/-- reduced form, the rows in any order -/
structure Uf (w : Nat) (K : List (List Rat)) : Prop where
  len : ∀ k ∈ K, k.length = w
  lt : ∀ k ∈ K, ld k < w
  one : ∀ k ∈ K, vc k (ld k) = 1
  del : K.Pairwise fun a b => ld a ≠ ld b ∧ vc a (ld b) = 0 ∧ vc b (ld a) = 0
theorem Rf.uf {w : Nat} {K : List (List Rat)} (h : Rf w K) : Uf w K :=
  ⟨h.len, h.lt, h.one, h.srt.imp fun x => ⟨by omega, x.2, ld_low x.1⟩⟩
theorem Uf.perm {w : Nat} {K K' : List (List Rat)} (h : Uf w K) (p : K'.Perm K) : Uf w K' :=
  ⟨fun k m => h.len k (p.mem_iff.mp m), fun k m => h.lt k (p.mem_iff.mp m), fun k m => h.one k (p.mem_iff.mp m), (p.pairwise_iff fun x => ⟨Ne.symm x.1, x.2.2, x.2.1⟩).mpr h.del⟩
theorem Uf.rf {w : Nat} {K : List (List Rat)} (h : Uf w K) (s : K.Pairwise fun a b => ld a ≤ ld b) : Rf w K :=
  ⟨h.len, h.lt, h.one, (s.and h.del).imp fun x => ⟨by have := x.2.1; omega, x.2.2.1⟩⟩
theorem sp_perm {K K' : List (List Rat)} (p : K'.Perm K) (v : Vc) : Sp K' v ↔ Sp K v :=
  ⟨fun h => h.mono fun r m => Sp.mem (p.mem_iff.mp m), fun h => h.mono fun r m => Sp.mem (p.mem_iff.mpr m)⟩
def sortR (K : List (List Rat)) : List (List Rat) := K.mergeSort fun a b => decide (ld a ≤ ld b)
theorem sortR_perm (K : List (List Rat)) : (sortR K).Perm K := List.mergeSort_perm _ _
theorem Uf.sort {w : Nat} {K : List (List Rat)} (h : Uf w K) : Rf w (sortR K) := by
  refine (h.perm (sortR_perm K)).rf ?_
  have := List.pairwise_mergeSort (le := fun a b : List Rat => decide (ld a ≤ ld b)) (fun a b c h1 h2 => by simp at h1 h2 ⊢; omega) (fun a b => by simp; omega) K
  exact this.imp fun x => by simpa using x
/-- a new row with a leading 1 that is 0 at the others' leading places -/
theorem uf_step {w p : Nat} {K : List (List Rat)} {y : List Rat} (h : Uf w K) (hl : y.length = w) (hp : ld y = p) (hp2 : p < w) (h1 : vc y p = 1) (hz : ∀ k ∈ K, vc y (ld k) = 0) :
    Uf w (K.map (fun k => lessR k (vc k p) y) ++ [y]) ∧ ∀ k ∈ K, ld (lessR k (vc k p) y) = ld k := by
  have at_ : ∀ k ∈ K, ∀ j, vc (lessR k (vc k p) y) j = vc k j - vc k p * vc y j := fun k m j => lessR_vc (h.len k m) hl j
  have hld : ∀ k ∈ K, ld (lessR k (vc k p) y) = ld k := fun k m => by
    refine ld_eq (fun j hj => ?_) ?_
    · rw [at_ k m, ld_low hj]
      by_cases q : j < p
      · rw [ld_low (r := y) (by omega)]
        grind
      · rw [ld_low (r := k) (j := p) (by omega)]
        grind
    · rw [at_ k m, hz k m, h.one k m]
      grind
  refine ⟨⟨fun k m => ?_, fun k m => ?_, fun k m => ?_, ?_⟩, hld⟩
  · rcases List.mem_append.mp m with m | m
    · obtain ⟨x, mx, rfl⟩ := List.mem_map.mp m
      exact lessR_len (h.len x mx) hl
    · rw [List.mem_singleton.mp m]
      exact hl
  · rcases List.mem_append.mp m with m | m
    · obtain ⟨x, mx, rfl⟩ := List.mem_map.mp m
      rw [hld x mx]
      exact h.lt x mx
    · rw [List.mem_singleton.mp m, hp]
      exact hp2
  · rcases List.mem_append.mp m with m | m
    · obtain ⟨x, mx, rfl⟩ := List.mem_map.mp m
      rw [hld x mx, at_ x mx, hz x mx, h.one x mx]
      grind
    · rw [List.mem_singleton.mp m, hp]
      exact h1
  · rw [List.pairwise_append]
    refine ⟨?_, List.pairwise_singleton _ _, fun a ma b mb => ?_⟩
    · rw [List.pairwise_map]
      refine List.Pairwise.imp_of_mem ?_ h.del
      intro a b ma mb hab
      rw [hld a ma, hld b mb, at_ a ma, at_ b mb, hz a ma, hz b mb, hab.2.1, hab.2.2]
      exact ⟨hab.1, by grind, by grind⟩
    · obtain ⟨x, mx, rfl⟩ := List.mem_map.mp ma
      rw [List.mem_singleton.mp mb, hld x mx, hp, at_ x mx, h1, hz x mx]
      refine ⟨fun e => ?_, by grind, rfl⟩
      have := hz x mx
      rw [e, h1] at this
      exact absurd this (by decide)
theorem sp_step {p w : Nat} {K : List (List Rat)} {y : List Rat} (hk : ∀ k ∈ K, k.length = w) (hl : y.length = w) (v : Vc) : Sp (K.map (fun k => lessR k (vc k p) y) ++ [y]) v ↔ Sp (K ++ [y]) v := by
  have at_ : ∀ k ∈ K, ∀ j, vc (lessR k (vc k p) y) j = vc k j - vc k p * vc y j := fun k m j => lessR_vc (hk k m) hl j
  constructor
  · refine fun h => h.mono fun r m => ?_
    rcases List.mem_append.mp m with m | m
    · obtain ⟨x, mx, rfl⟩ := List.mem_map.mp m
      rw [show vc (lessR x (vc x p) y) = fun j => vc x j - vc x p * vc y j from funext (at_ x mx)]
      exact (Sp.mem (by simp [mx])).less _ (Sp.mem (by simp))
    · exact Sp.mem (by simp [List.mem_singleton.mp m])
  · refine fun h => h.mono fun r m => ?_
    rcases List.mem_append.mp m with m | m
    · have h1 : Sp (K.map (fun k => lessR k (vc k p) y) ++ [y]) (vc (lessR r (vc r p) y)) := Sp.mem (List.mem_append_left _ (List.mem_map.mpr ⟨r, m, rfl⟩))
      have h2 := h1.less (-(vc r p)) (Sp.mem (r := y) (by simp))
      have e : (fun j => vc (lessR r (vc r p) y) j - -(vc r p) * vc y j) = vc r := by
        funext j
        rw [at_ r m]
        grind
      rwa [e] at h2
    · exact Sp.mem (by simp [List.mem_singleton.mp m])
/-- what is left of a row -/
def restR : List (List Rat) → List Rat → List Rat
  | [], r => r
  | k :: K, r => restR K (lessR r (vc r (ld k)) k)
theorem restR_len {w : Nat} : ∀ {K : List (List Rat)} {r : List Rat}, (∀ k ∈ K, k.length = w) → r.length = w → (restR K r).length = w
  | [], _, _, h => h
  | k :: K, r, hk, h => restR_len (K := K) (r := lessR r (vc r (ld k)) k) (fun a m => hk a (by simp [m])) (lessR_len h (hk k (by simp)))
theorem restR_vc {w : Nat} : ∀ {K : List (List Rat)} {r : List Rat}, Rf w K → r.length = w → ∀ j, vc (restR K r) j = vc r j - pj K (vc r) j
  | [], r, _, _, j => by
    show vc r j = vc r j - 0
    grind
  | k :: K, r, h, hr, j => by
    have hp := List.pairwise_cons.mp h.srt
    have hl := h.len k (by simp)
    have e : ∀ j, vc (lessR r (vc r (ld k)) k) j = vc r j - vc r (ld k) * vc k j := fun j => lessR_vc hr hl j
    show vc (restR K (lessR r (vc r (ld k)) k)) j = _
    rw [restR_vc h.tail (lessR_len hr hl)]
    have e2 : vc (lessR r (vc r (ld k)) k) = fun j => vc r j + -(vc r (ld k)) * vc k j := by
      funext j
      rw [e]
      grind
    rw [e2, pj_lin, pj_zero' K fun b mb => (hp.1 b mb).2]
    simp only [pj]
    grind
/-- .. is 0 at the leading places -/
theorem restR_at {w : Nat} {K : List (List Rat)} {r : List Rat} (h : Rf w K) (hr : r.length = w) : ∀ k ∈ K, vc (restR K r) (ld k) = 0 := fun k m => by
  rw [restR_vc h hr, pj_at h k m]
  grind
theorem restR_in {w : Nat} {K : List (List Rat)} {r : List Rat} (h : Rf w K) (hr : r.length = w) : ld (restR K r) = w ↔ Sp K (vc r) := by
  have hl := restR_len h.len hr
  constructor
  · intro e
    have : vc r = pj K (vc r) := by
      funext j
      have := zero_ld (r := restR K r) (by rw [e, hl]) j
      rw [restR_vc h hr] at this
      grind
    rw [this]
    exact pj_sp K _ fun _ m => m
  · intro s
    rw [← hl]
    refine ld_zero fun j => ?_
    rw [restR_vc h hr, pj_of h s]
    grind
def scaleR (r : List Rat) (c : Rat) : List Rat := r.map (· * c)
theorem scaleR_vc (r : List Rat) (c : Rat) (j : Nat) : vc (scaleR r c) j = vc r j * c := by
  unfold scaleR
  by_cases hj : j < r.length
  · rw [vc_get (by simpa using hj), vc_get hj, List.getElem_map]
  · rw [vc_of (by simp; omega), vc_of (by omega)]
    grind
/-- the space with one row more -/
def growR (K : List (List Rat)) (r : List Rat) : List (List Rat) :=
  if ld (restR K r) = r.length then K
  else sortR (K.map (fun k => lessR k (vc k (ld (restR K r))) (scaleR (restR K r) (vc (restR K r) (ld (restR K r)))⁻¹)) ++ [scaleR (restR K r) (vc (restR K r) (ld (restR K r)))⁻¹])
theorem grow_rf {w : Nat} {K : List (List Rat)} {r : List Rat} (h : Rf w K) (hr : r.length = w) : Rf w (growR K r) ∧ ∀ v, Sp (growR K r) v ↔ Sp (K ++ [r]) v := by
  have hl := restR_len h.len hr
  have hle := ld_le (restR K r)
  unfold growR
  split
  · rename_i e
    have hin := (restR_in h hr).mp (by rw [e, hr])
    refine ⟨h, fun v => ⟨fun s => s.mono fun a m => Sp.mem (by simp [m]), fun s => s.mono fun a m => ?_⟩⟩
    rcases List.mem_append.mp m with m | m
    · exact Sp.mem m
    · rw [List.mem_singleton.mp m]
      exact hin
  · rename_i hne
    rw [hr] at hne
    have hlt : ld (restR K r) < w := by omega
    have hn : vc (restR K r) (ld (restR K r)) ≠ 0 := ld_ne (by omega)
    have hrv := restR_vc h hr
    have hat := restR_at h hr
    generalize hx : restR K r = x at *
    generalize hp : ld x = p at *
    have yv : ∀ j, vc (scaleR x (vc x p)⁻¹) j = vc x j * (vc x p)⁻¹ := scaleR_vc x _
    have yl : (scaleR x (vc x p)⁻¹).length = w := by unfold scaleR; rw [List.length_map, hl]
    have y1 : vc (scaleR x (vc x p)⁻¹) p = 1 := by rw [yv, Rat.mul_inv_cancel _ hn]
    have yld : ld (scaleR x (vc x p)⁻¹) = p := ld_eq (fun j hj => by rw [yv, ld_low (r := x) (by omega), Rat.zero_mul]) (by rw [y1]; decide)
    have yz : ∀ k ∈ K, vc (scaleR x (vc x p)⁻¹) (ld k) = 0 := fun k m => by rw [yv, hat k m, Rat.zero_mul]
    have key := uf_step h.uf yl yld hlt y1 yz
    refine ⟨key.1.sort, fun v => ?_⟩
    rw [sp_perm (sortR_perm _), sp_step h.len yl]
    have hpj := pj_sp K (vc r) (K' := K) fun _ m => m
    constructor
    · refine fun s => s.mono fun a m => ?_
      rcases List.mem_append.mp m with m | m
      · exact Sp.mem (by simp [m])
      · rw [List.mem_singleton.mp m]
        have h1 : Sp (K ++ [r]) (vc r) := Sp.mem (by simp)
        have h2 : Sp (K ++ [r]) (pj K (vc r)) := hpj.mono fun b mb => Sp.mem (by simp [mb])
        have h3 := (h1.less 1 h2).scal (vc x p)⁻¹
        have e : (fun j => (vc x p)⁻¹ * (vc r j - 1 * pj K (vc r) j)) = vc (scaleR x (vc x p)⁻¹) := by
          funext j
          rw [yv, hrv]
          grind
        rwa [e] at h3
    · refine fun s => s.mono fun a m => ?_
      rcases List.mem_append.mp m with m | m
      · exact Sp.mem (by simp [m])
      · rw [List.mem_singleton.mp m]
        have h1 : Sp (K ++ [scaleR x (vc x p)⁻¹]) (vc (scaleR x (vc x p)⁻¹)) := Sp.mem (by simp)
        have h2 : Sp (K ++ [scaleR x (vc x p)⁻¹]) (pj K (vc r)) := hpj.mono fun b mb => Sp.mem (by simp [mb])
        have h3 := (h1.scal (vc x p)).plus h2
        have e : (fun j => vc x p * vc (scaleR x (vc x p)⁻¹) j + pj K (vc r) j) = vc r := by
          funext j
          rw [yv, hrv]
          have : vc x p * (vc x p)⁻¹ = 1 := Rat.mul_inv_cancel _ hn
          grind
        rwa [e] at h3
theorem rf_len {w : Nat} {K : List (List Rat)} (h : Rf w K) : K.length ≤ w := by
  have key : ∀ {l : List Nat} {lo : Nat}, l.Pairwise (· < ·) → (∀ x ∈ l, lo ≤ x ∧ x < w) → l.length + lo ≤ w ∨ l = [] := fun {l} => by
    induction l with
    | nil => intros; exact .inr rfl
    | cons a l ih =>
      intro lo hp hb
      have hc := List.pairwise_cons.mp hp
      have h1 := hb a (by simp)
      rcases ih (lo := a + 1) hc.2 (fun x m => ⟨hc.1 x m, (hb x (by simp [m])).2⟩) with h | h
      · left
        rw [List.length_cons]
        omega
      · subst h
        left
        simp
        omega
  rcases key (lo := 0) h.leads (fun x m => by
    obtain ⟨k, mk, rfl⟩ := List.mem_map.mp m
    exact ⟨Nat.zero_le _, h.lt k mk⟩) with h | h
  · simpa using h
  · simp at h
    simp [h]
end Lw

namespace Lw
open PySem PySem.Spec PyProof.Rows L2 Py
theorem p67 {r : Int} {v : Nat} (hv : v ≤ 4) (h0 : 0 ≤ r) (h1 : r < 100000 ^ v) : r.natAbs < 2 ^ 67 := by
  have e : (100000 : Nat) ^ 4 < 2 ^ 67 := by decide
  have e2 : (100000 : Nat) ^ v ≤ 100000 ^ 4 := Nat.pow_le_pow_right (by decide) hv
  have e3 : ((100000 ^ v : Nat) : Int) = (100000 : Int) ^ v := by simp
  generalize (100000 : Nat) ^ 4 = A at e e2
  generalize (2 : Nat) ^ 67 = B at e ⊢
  generalize (100000 : Int) ^ v = C at e3 h1
  omega
theorem sz_int {i : Int} {k : Nat} (h : i.natAbs < 2 ^ k) (hk : 1 ≤ k) : Sz k (i : Rat) := ⟨by simpa using h, by simpa using Nat.one_lt_two_pow (by omega)⟩
theorem tq_int (i : Int) : TQ (i : Rat) = .tup [.int i, .int 1] := by simp
theorem number_ok {n i v : Nat} {W : Int} {o : Ce} {S : Sto} {Q : Py.W → Sto → Prop} (hn : 3 ≤ n) (hW : W = v) (hv : v ≤ 4) (ho : S[i]? = some o) (hf : Feed o) (h : ∀ q o', Sz 67 q → Feed o' → Q (.d (TQ q)) (S.set i o')) : (FT n i__law_number [.c i, .d (.int W)] S).sat Q := by
  obtain ⟨n, rfl⟩ : ∃ k, n = k + 1 := ⟨n - 1, by omega⟩
  have hi : i < S.length := (List.getElem?_eq_some_iff.mp ho).1
  have h2 : (2 : Nat) ≤ sizeLine := by decide
  have tk : ∀ o' : Ce, (S.set i o').take S.length = S.set i o' := fun o' => List.take_of_length_le (by simp)
  rw [FT__law_number]
  refine run_sat rfl ?_
  unfold c__law_number
  simp_all!
  refine draw_ok (by omega) ho hf (by decide) (by decide) fun kind o hk0 hk1 hf => ?_
  simp!
  refine rs_cut (fun e S1 => e = [some (.c i), some (.d (.int W)), some (.d (.int kind)), none] ∧ S1 = S.set i o) ?_ ?_
  · simp!
    refine br_of (fun h1 => ?_) (fun h1 => ?_)
    · simp! [h2]
      rw [tk]
      have := h 0 o (sz_zero.mono (by decide)) hf
      exact this
    · simp!
  rintro e S1 ⟨rfl, rfl⟩
  refine rs_cut (fun e S1 => e = [some (.c i), some (.d (.int W)), some (.d (.int kind)), none] ∧ S1 = S.set i o) ?_ ?_
  · simp!
    refine br_of (fun h1 => ?_) (fun h1 => ?_)
    · simp!
      refine draw_ok (by omega) (set_get hi) hf (by decide) (by decide) fun r o h0 h1 hf => ?_
      simp! [h2, List.set_set]
      rw [tk, ← tq_int]
      exact h _ o (sz_int (Nat.lt_of_lt_of_le (show (r - 4).natAbs < 2 ^ 10 by omega) (Nat.pow_le_pow_right (by decide) (by decide))) (by decide)) hf
    · simp!
  rintro e S1 ⟨rfl, rfl⟩
  refine rs_cut (fun e S1 => e = [some (.c i), some (.d (.int W)), some (.d (.int kind)), none] ∧ S1 = S.set i o) ?_ ?_
  · simp!
    refine br_of (fun h1 => ?_) (fun h1 => ?_)
    · simp!
      refine br_of (fun h3 => ?_) (fun h3 => ?_)
      · simp_all!
        refine great_ok (by omega) hW (set_get hi) hf (by omega) fun r o h4 h5 hf => ?_
        simp! [List.set_set]
        refine draw_ok (by omega) (set_get hi) hf (by decide) (by decide) fun s o h6 h7 hf => ?_
        have hr := p67 hv h4 h5
        have hs : (1 - 2 * s).natAbs < 2 ^ 2 := by omega
        simp! [List.set_set, (mulOkL (by decide) : IntMulOk 2 s), (mulOk hr hs (by decide) : IntMulOk r (1 - 2 * s))]
        have hrs : (r * (1 - 2 * s)).natAbs < 2 ^ 67 := by
          have : s = 0 ∨ s = 1 := by omega
          rcases this with rfl | rfl
          · simpa using hr
          · rw [show r * (1 - 2 * 1) = -r by omega, Int.natAbs_neg]; exact hr
        refine great_ok (by omega) hW (set_get hi) hf (by omega) fun t o h8 h9 hf => ?_
        have ht := p67 hv h8 h9
        simp! [List.set_set]
        have hb : ∀ b : Int, b = (if t > 1 then t else 1) → b ≠ 0 ∧ b.natAbs < 2 ^ 67 := fun b hb => by
          have : (1 : Nat) < 2 ^ 67 := Nat.one_lt_two_pow (by decide)
          split at hb <;> omega
        obtain ⟨hb0, hb1⟩ := hb _ rfl
        refine pair_ok (by omega) hrs hb1 (by decide) hb0 ?_
        show Q _ ((S.set i o).take S.length)
        rw [tk]
        exact h _ o (sz_divInt hrs hb1 hb0) hf
      · simp!
    · simp!
  rintro e S1 ⟨rfl, rfl⟩
  simp!
  refine draw_ok (by omega) (set_get hi) hf (by decide) (by decide) fun r o h0 h1 hf => ?_
  simp! [List.set_set]
  refine draw_ok (by omega) (set_get hi) hf (by decide) (by decide) fun s o h3 h4 hf => ?_
  simp! [List.set_set]
  have z1 : (r - 9).natAbs < 2 ^ 67 := Nat.lt_of_lt_of_le (show (r - 9).natAbs < 2 ^ 10 by omega) (Nat.pow_le_pow_right (by decide) (by decide))
  have z2 : (1 + s).natAbs < 2 ^ 67 := Nat.lt_of_lt_of_le (show (1 + s).natAbs < 2 ^ 10 by omega) (Nat.pow_le_pow_right (by decide) (by decide))
  refine pair_ok (by omega) z1 z2 (by decide) (by omega) ?_
  show Q _ ((S.set i o).take S.length)
  rw [tk]
  exact h _ o (sz_divInt z1 z2 (by omega)) hf
end Lw

namespace Lw
open PySem PySem.Spec PyProof.Rows L2 Py
/-! spaces: the program's walks -/
theorem vc_mem {r : List Rat} {P : Rat → Prop} (h : ∀ q ∈ r, P q) (h0 : P 0) (j : Nat) : P (vc r j) := by
  by_cases hj : j < r.length
  · rw [vc_get hj]
    exact h _ (List.getElem_mem _)
  · rw [vc_of (by omega)]
    exact h0
theorem atI_vc {r : List Rat} {j : Nat} (h : j < r.length) : atI ((r.map RQ).map W.d) (j : Int) = some (.d (RQ (vc r j))) := by
  refine atI_nat ?_
  rw [List.getElem?_map, List.getElem?_map, vc_get? h]
  rfl
theorem leading_ok {n : Nat} {r : List Rat} {S : Sto} {Q : W → Sto → Prop} (hn : 2 ≤ n) (hl : r.length ≤ 1000000) (h : Q (.d (.int (ld r : Nat))) S) : (FT n i_leading [.d (TR r)] S).sat Q := by
  obtain ⟨n, rfl⟩ : ∃ k, n = k + 1 := ⟨n - 1, by omega⟩
  have zl : r.length ≤ sizeLine := Nat.le_trans hl (by decide)
  rw [FT_leading]
  with_reducible refine run_sat (by simp) ?_
  unfold c_leading
  with_reducible refine rs_cut (fun e S1 => S1 = S ∧ ld r = r.length ∧ ∃ x1 x2, e = [some (.d (TR r)), x1, x2]) ?_ ?_
  · simp!
    refine for_sat (fun j e S1 => S1 = S ∧ j ≤ ld r ∧ ∃ x1 x2, e = [some (.d (TR r)), x1, x2]) ⟨rfl, Nat.zero_le _, _, _, rfl⟩ ?_ ?_
    · rintro j x e S1 hx ⟨rfl, hj, x1, x2, rfl⟩
      obtain ⟨d, hd, rfl⟩ := enumP_get hx
      obtain ⟨q, hq, rfl⟩ : ∃ q, r[j]? = some q ∧ d = RQ q := by
        rw [List.getElem?_map] at hd
        cases e : r[j]? with
        | none => rw [e] at hd; cases hd
        | some q => rw [e] at hd; cases hd; exact ⟨q, rfl, rfl⟩
      have hjl := (List.getElem?_eq_some_iff.mp hq).1
      have hv : vc r j = q := by
        rw [vc_get? hjl] at hq
        exact Option.some.inj hq
      refine ⟨trivial, _, rfl, ?_⟩
      simp! [truO_rq (show 1 ≤ n by omega), decide_eq_true_eq]
      refine br_of (fun h1 => ?_) (fun h1 => ?_)
      · simp!
        have : ld r = j := ld_eq (fun i hi => ld_low (by omega)) (by rw [hv]; exact h1)
        rw [List.take_length, ← this]
        exact h
      · simp!
        have h1 : q = 0 := by simpa using h1
        refine ⟨?_, _, _, rfl⟩
        rcases Nat.lt_or_ge j (ld r) with h2 | h2
        · exact h2
        · have e1 : ld r = j := by omega
          have := ld_ne (r := r) (by omega)
          rw [e1, hv] at this
          exact absurd h1 this
    · rintro e S1 ⟨rfl, hj, x1, x2, rfl⟩
      rw [enumP_len, List.length_map] at hj
      have := ld_le r
      exact ⟨trivial, rfl, by omega, _, _, rfl⟩
  intro e S1 hh
  obtain ⟨hS, hle, x1, x2, hE⟩ := hh
  subst hS hE
  simp! [List.length_map, zl]
  rw [List.take_length, ← hle]
  exact h
theorem less_ok {n a b e : Nat} {r s : List Rat} {c : Rat} {S : Sto} {Q : W → Sto → Prop} (hn : 5 ≤ n) (hl : r.length = s.length) (hl2 : r.length ≤ 1000000) (hr : ∀ q ∈ r, Sz a q) (hc : Sz b c) (hs : ∀ q ∈ s, Sz e q) (hb : a + (b + e) + 1 ≤ 60000000) (h : Q (.d (TR (lessR r c s))) S) :
    (FT n i_less [.d (TR r), .d (RQ c), .d (TR s)] S).sat Q := by
  obtain ⟨n, rfl⟩ : ∃ k, n = k + 1 := ⟨n - 1, by omega⟩
  rw [FT_less]
  with_reducible refine run_sat (by simp) ?_
  unfold c_less
  with_reducible refine rs_cut (fun e S1 => S1 = S ∧ e = [some (.d (TR r)), some (.d (RQ c)), some (.d (TR s)), none, none]) ?_ ?_
  · simp! [truO_rq (show 1 ≤ n by omega)]
    by_cases h0 : c = 0
    · subst h0
      simp! [decide_eq_true_eq]
      rw [List.take_length]
      rwa [lessR_zero rfl hl.symm] at h
    · have : decide (c ≠ 0) = true := by simpa using h0
      simp! [this]
  intro e S1 hh
  obtain ⟨hS, hE⟩ := hh
  subst hS hE
  have zl : (lessR r c s).length ≤ 16777216 := by rw [lessR_len rfl hl.symm]; omega
  simp!
  refine comp_sat (fun j ys S2 => S2 = S1 ∧ ys = (((lessR r c s).take j).map RQ).map W.d) ⟨rfl, rfl⟩ ?_ ?_
  · rintro j x ys S2 hx ⟨rfl, rfl⟩
    obtain ⟨p, q, hp, hq, rfl⟩ := zipP_get hx
    obtain ⟨p', hp', rfl⟩ : ∃ q, r[j]? = some q ∧ p = RQ q := by
      rw [List.getElem?_map] at hp
      cases e : r[j]? with
      | none => rw [e] at hp; cases hp
      | some q => rw [e] at hp; cases hp; exact ⟨q, rfl, rfl⟩
    obtain ⟨q', hq', rfl⟩ : ∃ p, s[j]? = some p ∧ q = RQ p := by
      rw [List.getElem?_map] at hq
      cases e : s[j]? with
      | none => rw [e] at hq; cases hq
      | some q => rw [e] at hq; cases hq; exact ⟨q, rfl, rfl⟩
    refine ⟨trivial, _, rfl, ?_⟩
    simp!
    refine mul_ok (by omega) hc (hs q' (List.mem_of_getElem? hq')) (by omega) ?_
    simp!
    refine sub_ok (k := a) (l := b + e) (by omega) (hr p' (List.mem_of_getElem? hp')) (sz_mul hc (hs q' (List.mem_of_getElem? hq')) (Nat.le_refl _)) (by omega) ?_
    refine ⟨rfl, ?_⟩
    have e1 : (lessR r c s)[j]? = some (p' - c * q') := by
      unfold lessR
      rw [List.getElem?_zipWith, hp', hq']
    rw [List.take_add_one, e1]
    simp
  · rintro ys S2 ⟨rfl, rfl⟩
    have e1 : (zipP (r.map RQ) (s.map RQ)).length = (lessR r c s).length := by rw [zipP_len, List.length_map, List.length_map, lessR_len rfl hl.symm]; omega
    rw [e1, List.take_length]
    refine ⟨trivial, ?_⟩
    simp! [plainL_map, zl]
    rw [List.take_length]
    exact h
theorem over_ok {n k l : Nat} {p q : Rat} {S : Sto} {Q : W → Sto → Prop} (hn : 4 ≤ n) (hp : Sz k p) (hq : Sz l q) (h0 : q ≠ 0) (hk : k + l ≤ 60000000) (h : Q (.d (RQ (p * q⁻¹))) S) : (FT n i_Ratio_over [.d (RQ p), .d (RQ q)] S).sat Q := by
  obtain ⟨n, rfl⟩ : ∃ k, n = k + 1 := ⟨n - 1, by omega⟩
  have hqn : q.num ≠ 0 := fun e => h0 (Rat.num_eq_zero.mp e)
  have m1 : IntMulOk p.num q.den := mulOk hp.1 (show (q.den : Int).natAbs < 2 ^ l from hq.2) (by omega)
  have m2 : IntMulOk p.den q.num := mulOk (show (p.den : Int).natAbs < 2 ^ k from hp.2) hq.1 (by omega)
  have e1 := na_mul hp.1 (show (q.den : Int).natAbs < 2 ^ l from hq.2)
  have e2 := na_mul (show (p.den : Int).natAbs < 2 ^ k from hp.2) hq.1
  have key : Rat.divInt (p.num * q.den) (p.den * q.num) = p * q⁻¹ := by
    have e : q⁻¹ = Rat.divInt q.den q.num := by
      conv => lhs; rw [← Rat.num_divInt_den q]
      rw [Rat.inv_divInt]
    rw [e]
    conv => rhs; rw [← Rat.num_divInt_den p]
    rw [Rat.divInt_mul_divInt]
  rw [FT_Ratio_over]
  with_reducible refine run_sat (by simp) ?_
  unfold c_Ratio_over
  simp! [m1, m2]
  refine mk_ok (k := k + l) (by omega) e1 e2 hk (Int.mul_ne_zero (den_ne p) hqn) ?_
  rw [key, cutR_d, List.take_length]
  exact h
theorem scaledrow_ok {n a b : Nat} {r : List Rat} {c : Rat} {S : Sto} {Q : W → Sto → Prop} (hn : 5 ≤ n) (hl : r.length ≤ 1000000) (hr : ∀ q ∈ r, Sz a q) (hc : Sz b c) (hb : a + b ≤ 60000000) (h : Q (.d (TR (scaleR r c))) S) : (FT n i_scaled_row [.d (TR r), .d (RQ c)] S).sat Q := by
  obtain ⟨n, rfl⟩ : ∃ k, n = k + 1 := ⟨n - 1, by omega⟩
  have zl : r.length ≤ 16777216 := by omega
  rw [FT_scaled_row]
  with_reducible refine run_sat (by simp) ?_
  unfold c_scaled_row
  simp!
  refine comp_each (l := r) (mk := fun q => W.d (RQ q)) (f := fun q => RQ (q * c)) (by simp) ?_ trivial ?_
  · intro q m
    refine ⟨_, rfl, ?_⟩
    simp!
    exact mul_ok (by omega) (hr q m) hc hb ⟨rfl, rfl⟩
  · simp! [plainL_map, zl]
    rw [List.take_length]
    have e : TR (scaleR r c) = .tup (r.map fun q => RQ (q * c)) := by
      unfold scaleR TR
      rw [List.map_map]
      rfl
    rw [e] at h
    exact h
theorem restR_snoc (A : List (List Rat)) (k r : List Rat) : restR (A ++ [k]) r = lessR (restR A r) (vc (restR A r) (ld k)) k := by
  induction A generalizing r with
  | nil => rfl
  | cons a A ih => exact ih _
/-- sizes of a table in reduced form -/
def SpZ (u : Nat) (K : List (List Rat)) : Prop := ∃ d, 0 < d ∧ d < 2 ^ u ∧ ∀ k ∈ K, FrL d (2 ^ u) k
theorem SpZ.rz {u : Nat} {K : List (List Rat)} (h : SpZ u K) : ∀ k ∈ K, Rz u u k := fun k m => by
  obtain ⟨d, h0, h1, h2⟩ := h
  exact ⟨d, h0, h1, h2 k m⟩
theorem fr_vc {d V : Nat} {r : List Rat} (h : FrL d V r) (j : Nat) : Fr d V (vc r j) := vc_mem h Fr.zero j
theorem FrL.of_vc {d V : Nat} {r : List Rat} (h : ∀ j, Fr d V (vc r j)) : FrL d V r := fun q m => by
  obtain ⟨j, hj, rfl⟩ := List.getElem_of_mem m
  have := h j
  rwa [vc_get hj] at this
theorem Fr.sub {d V W : Nat} {p q : Rat} (hp : Fr d V p) (hq : Fr d W q) : Fr d (V + W) (p - q) := by
  have := hp.add hq.neg
  rwa [← Rat.sub_eq_add_neg] at this
theorem lessR_fr {d V U W w : Nat} {r s : List Rat} {c : Rat} {e : Nat} (hr : r.length = w) (hs : s.length = w) (h1 : FrL (e * d) V r) (h2 : Fr e U c) (h3 : FrL d W s) : FrL (e * d) (V + U * W) (lessR r c s) :=
  FrL.of_vc fun j => by
    rw [lessR_vc hr hs]
    exact (fr_vc h1 j).sub (h2.mul (fr_vc h3 j))
/-- what is left of a row: sizes -/
theorem restR_fr {w e d V W : Nat} {r : List Rat} (hr : r.length = w) (he : FrL e W r) : ∀ {K : List (List Rat)}, Rf w K → (∀ k ∈ K, FrL d V k) → ∀ j, FrL (e * d) (W + j * (W * V)) (restR (K.take j) r) := by
  intro K hK hd j
  induction j with
  | zero =>
    intro q m
    rw [Nat.zero_mul]
    exact (he q m).up d
  | succ j ih =>
    by_cases hj : j < K.length
    · have e1 : K.take (j + 1) = K.take j ++ [K[j]] := by rw [List.take_add_one, List.getElem?_eq_getElem hj]; rfl
      have m1 : K[j] ∈ K := List.getElem_mem _
      have hlen : ∀ k ∈ K.take j, k.length = w := fun k m => hK.len k (List.mem_of_mem_take m)
      rw [e1, restR_snoc]
      have hrf : Rf w (K.take j) := ⟨hlen, fun k m => hK.lt k (List.mem_of_mem_take m), fun k m => hK.one k (List.mem_of_mem_take m), hK.srt.sublist (List.take_sublist _ _)⟩
      have hc : vc (restR (K.take j) r) (ld K[j]) = vc r (ld K[j]) := by
        rw [restR_vc hrf hr]
        have : pj (K.take j) (vc r) (ld K[j]) = 0 := by
          have : ∀ (A : List (List Rat)), (∀ a ∈ A, vc a (ld K[j]) = 0) → pj A (vc r) (ld K[j]) = 0 := fun A => by
            induction A with
            | nil => intro _; rfl
            | cons a A ih =>
              intro h
              simp only [pj]
              rw [ih fun b m => h b (by simp [m]), h a (by simp)]
              grind
          have hin : K[j] ∈ K.drop j := by
            rw [List.drop_eq_getElem_cons hj]
            exact List.mem_cons_self
          refine this _ fun a ma => ?_
          have hsp := hK.srt
          rw [← List.take_append_drop j K, List.pairwise_append] at hsp
          exact (hsp.2.2 a ma _ hin).2
        rw [this]
        grind
      rw [hc]
      have h3 := lessR_fr (restR_len hlen hr) (hK.len _ m1) ih (fr_vc he (ld K[j])) (hd _ m1)
      intro q m
      refine (h3 q m).mono ?_
      rw [Nat.succ_mul]
      omega
    · have e1 : K.take (j + 1) = K.take j := by rw [List.take_of_length_le (by omega), List.take_of_length_le (by omega)]
      rw [e1]
      intro q m
      refine (ih q m).mono ?_
      rw [Nat.succ_mul]
      omega
/-- the sizes of the space, row by row -/
def uB (B : Nat) : Nat → Nat
  | 0 => 1
  | n + 1 => 3 * uB B n + B + 1
theorem uB_mono (B : Nat) : ∀ {m n : Nat}, m ≤ n → uB B m ≤ uB B n := fun {m n} h => by
  induction n with
  | zero =>
    have : m = 0 := by omega
    rw [this]
    exact Nat.le_refl _
  | succ n ih =>
    by_cases q : m = n + 1
    · rw [q]
      exact Nat.le_refl _
    · have := ih (by omega)
      show _ ≤ 3 * uB B n + B + 1
      omega
theorem one_lt_two (u : Nat) (h : 1 ≤ u) : 1 < 2 ^ u := Nat.one_lt_two_pow (by omega)
theorem int_of_fr {d V : Nat} {q : Rat} (h : Fr d V q) : ∃ z : Int, q * (d : Rat) = (z : Rat) ∧ z.natAbs ≤ V * d := h
/-- a row over its leading number -/
theorem scale_fr {D V p : Nat} {x : List Rat} (hD : 0 < D) (hx : FrL D V x) (hp : vc x p ≠ 0) : ∃ z : Nat, 0 < z ∧ z ≤ V * D ∧ FrL z (V * D) (scaleR x (vc x p)⁻¹) := by
  obtain ⟨zp, e1, h1⟩ := fr_vc hx p
  have hd0 := cast_ne hD
  have hz0 : zp ≠ 0 := fun e => by
    rw [e] at e1
    have : vc x p * (D : Rat) = 0 := by rw [e1]; rfl
    rcases Rat.mul_eq_zero.mp this with h | h
    · exact hp h
    · exact hd0 h
  refine ⟨zp.natAbs, by omega, h1, FrL.of_vc fun j => ?_⟩
  obtain ⟨zj, e2, h2⟩ := fr_vc hx j
  have hzn : ((zp.natAbs : Nat) : Rat) = (zp.sign : Rat) * (zp : Rat) := by
    have : ((zp.natAbs : Nat) : Int) = zp.sign * zp := by
      rcases Int.lt_trichotomy zp 0 with h | h | h
      · rw [Int.sign_eq_neg_one_of_neg h]; omega
      · exact absurd h hz0
      · rw [Int.sign_eq_one_of_pos h]; omega
    rw [← Rat.intCast_natCast, this, Rat.intCast_mul]
  refine ⟨zp.sign * zj, ?_, ?_⟩
  · rw [scaleR_vc, hzn, Rat.intCast_mul, ← e1, ← e2]
    have : vc x p * (vc x p)⁻¹ = 1 := Rat.mul_inv_cancel _ hp
    grind
  · rw [sign_na zj hz0]
    exact Nat.le_trans h2 (Nat.le_mul_of_pos_right _ (by omega))
/-- the row that comes in, and the space behind it: sizes -/
theorem grow_fr {w u kr vr c : Nat} {K : List (List Rat)} {r : List Rat} (h : Rf w K) (hr : r.length = w) (hz : SpZ u K) (hq : Rz kr vr r) (hc : K.length + 1 ≤ 2 ^ c) (h1 : 1 ≤ u) :
    (∀ j, Rz (u + kr) (u + vr + c) (restR (K.take j) r)) ∧ (ld (restR K r) < w →
      Rz (u + kr + (u + vr + c)) (u + kr + (u + vr + c)) (scaleR (restR K r) (vc (restR K r) (ld (restR K r)))⁻¹) ∧
      SpZ (3 * u + (kr + vr + c) + 1) (K.map (fun k => lessR k (vc k (ld (restR K r))) (scaleR (restR K r) (vc (restR K r) (ld (restR K r)))⁻¹)) ++ [scaleR (restR K r) (vc (restR K r) (ld (restR K r)))⁻¹]) ∧
      ∀ k ∈ K, Rz (3 * u + (kr + vr + c) + 1) (3 * u + (kr + vr + c) + 1) (lessR k (vc k (ld (restR K r))) (scaleR (restR K r) (vc (restR K r) (ld (restR K r)))⁻¹))) := by
  obtain ⟨d, d0, d1, d2⟩ := hz
  obtain ⟨e, e0, e1, e2⟩ := hq
  have hD0 : 0 < e * d := Nat.mul_pos e0 d0
  have hD1 : e * d < 2 ^ (u + kr) := by
    rw [Nat.pow_add, Nat.mul_comm]
    exact Nat.mul_lt_mul'' d1 e1
  have hV : ∀ j, j ≤ K.length → 2 ^ vr + j * (2 ^ vr * 2 ^ u) ≤ 2 ^ (u + vr + c) := fun j hj => by
    have a1 : 2 ^ vr ≤ 2 ^ vr * 2 ^ u := Nat.le_mul_of_pos_right _ (Nat.two_pow_pos u)
    calc 2 ^ vr + j * (2 ^ vr * 2 ^ u) ≤ (j + 1) * (2 ^ vr * 2 ^ u) := by rw [Nat.succ_mul]; omega
      _ ≤ 2 ^ c * (2 ^ vr * 2 ^ u) := Nat.mul_le_mul_right _ (by omega)
      _ = 2 ^ (u + vr + c) := by rw [← Nat.pow_add, ← Nat.pow_add]; congr 1; omega
  have part : ∀ j, FrL (e * d) (2 ^ (u + vr + c)) (restR (K.take j) r) := fun j => by
    by_cases hj : j ≤ K.length
    · intro q m
      exact (restR_fr hr e2 h d2 j q m).mono (hV j hj)
    · rw [show K.take j = K.take K.length by rw [List.take_of_length_le (by omega), List.take_of_length_le (Nat.le_refl _)]]
      intro q m
      exact (restR_fr hr e2 h d2 K.length q m).mono (hV _ (Nat.le_refl _))
  refine ⟨fun j => ⟨e * d, hD0, hD1, part j⟩, fun hlt => ?_⟩
  have hx := part K.length
  rw [List.take_length] at hx
  have hl := restR_len h.len hr
  have hn : vc (restR K r) (ld (restR K r)) ≠ 0 := ld_ne (by omega)
  generalize restR K r = x at hx hl hn hlt ⊢
  generalize ld x = p at hn hlt ⊢
  obtain ⟨z, z0, z1, z2⟩ := scale_fr hD0 hx hn
  have zV : 2 ^ (u + vr + c) * (e * d) < 2 ^ (u + kr + (u + vr + c)) := by
    rw [Nat.pow_add 2 (u + kr), Nat.mul_comm]
    exact Nat.mul_lt_mul_of_pos_right hD1 (Nat.two_pow_pos _)
  have ylen : (scaleR x (vc x p)⁻¹).length = w := by unfold scaleR; rw [List.length_map, hl]
  have yz : FrL z (2 ^ (u + kr + (u + vr + c))) (scaleR x (vc x p)⁻¹) := fun q m => (z2 q m).mono (Nat.le_of_lt zV)
  have tz : ∀ k ∈ K, FrL (d * z) (2 ^ (3 * u + (kr + vr + c) + 1)) (lessR k (vc k p) (scaleR x (vc x p)⁻¹)) := fun k m => by
    have h3 := lessR_fr (e := d) (d := z) (h.len k m) ylen (fun q mq => (d2 k m q mq).up z) (fr_vc (d2 k m) p) yz
    intro q mq
    refine (h3 q mq).mono ?_
    rw [← Nat.pow_add]
    have a1 : 2 ^ u ≤ 2 ^ (u + (u + kr + (u + vr + c))) := Nat.pow_le_pow_right (by decide) (by omega)
    have a2 : 2 ^ (u + (u + kr + (u + vr + c))) * 2 = 2 ^ (3 * u + (kr + vr + c) + 1) := by
      rw [← Nat.pow_succ]
      congr 1
      omega
    omega
  have dz : d * z < 2 ^ (3 * u + (kr + vr + c) + 1) := by
    have : d * z < 2 ^ u * 2 ^ (u + kr + (u + vr + c)) := Nat.mul_lt_mul'' d1 (Nat.lt_of_le_of_lt z1 zV)
    rw [← Nat.pow_add] at this
    exact Nat.lt_of_lt_of_le this (Nat.pow_le_pow_right (by decide) (by omega))
  refine ⟨⟨z, z0, Nat.lt_of_le_of_lt z1 zV, yz⟩, ⟨d * z, Nat.mul_pos d0 z0, dz, fun k m => ?_⟩, fun k m => ⟨d * z, Nat.mul_pos d0 z0, dz, tz k m⟩⟩
  rcases List.mem_append.mp m with m | m
  · obtain ⟨k', mk, rfl⟩ := List.mem_map.mp m
    exact tz k' mk
  · rw [List.mem_singleton.mp m]
    intro q mq
    exact ((yz q mq).mono (Nat.pow_le_pow_right (by decide) (by omega))).up' d
theorem SpZ.perm {u : Nat} {K K' : List (List Rat)} (h : SpZ u K) (p : K'.Perm K) : SpZ u K' := by
  obtain ⟨d, a, b, c⟩ := h
  exact ⟨d, a, b, fun k m => c k (p.mem_iff.mp m)⟩
theorem SpZ.mono {u v : Nat} {K : List (List Rat)} (h : SpZ u K) (hv : u ≤ v) : SpZ v K := by
  obtain ⟨d, a, b, c⟩ := h
  exact ⟨d, a, Nat.lt_of_lt_of_le b (Nat.pow_le_pow_right (by decide) hv), fun k m q mq => (c k m q mq).mono (Nat.pow_le_pow_right (by decide) hv)⟩
end Lw

namespace Lw
open PySem PySem.Spec PyProof.Rows L2 Py
/-! the class Space -/
/-- a space, as data or as a cell -/
def SpaceAt (x : W) (S : Sto) (K : List (List Rat)) : Prop := x = .d (.obj 1/-S-/ [TT K]) ∨ ∃ i, x = .c i ∧ S[i]? = some (.ins 1/-S-/ [.d (TT K)])
theorem sz_inv {k : Nat} {q : Rat} (h : Sz k q) (h0 : q ≠ 0) : Sz k q⁻¹ := by
  have e : q⁻¹ = Rat.divInt q.den q.num := by
    conv => lhs; rw [← Rat.num_divInt_den q]
    rw [Rat.inv_divInt]
  rw [e]
  exact sz_divInt (show (q.den : Int).natAbs < 2 ^ k from h.2) h.1 fun z => h0 (Rat.num_eq_zero.mp z)
theorem vc_in {r : List Rat} {j : Nat} (h : j < r.length) : vc r j ∈ r := by
  rw [vc_get h]
  exact List.getElem_mem _
def keyD : D → Int
  | .tup xs => ((xs.findIdx fun d => match d with
    | .obj _ (.int a :: _) => decide (a ≠ 0)
    | _ => false : Nat) : Int)
  | _ => 0
theorem keyD_tr (r : List Rat) : keyD (TR r) = (ld r : Nat) := by
  show (((r.map RQ).findIdx _ : Nat) : Int) = _
  rw [List.findIdx_map]
  congr 1
  unfold ld
  congr 1
  funext q
  show decide (q.num ≠ 0) = decide (q ≠ 0)
  by_cases h : q = 0
  · subst h; rfl
  · have : q.num ≠ 0 := fun e => h (Rat.num_eq_zero.mp e)
    simp [h, this]
theorem sort_map (L : List (List Rat)) : (L.map TR).mergeSort (fun x y => decide (keyD x ≤ keyD y)) = (sortR L).map TR := by
  unfold sortR
  rw [← List.map_mergeSort (r := fun a b : List Rat => decide (ld a ≤ ld b)) (fun a _ b _ => ?_)]
  show decide (ld a ≤ ld b) = decide (keyD (TR a) ≤ keyD (TR b))
  rw [keyD_tr, keyD_tr]
  simp
theorem rest_ok {n w u kx vx : Nat} {x : W} {K : List (List Rat)} {r : List Rat} {S : Sto} {Q : W → Sto → Prop} (hn : 6 ≤ n) (hx : SpaceAt x S K) (h : Rf w K) (hr : r.length = w) (hw : w ≤ 1000000) (hz : SpZ u K) (hq : ∀ j, Rz kx vx (restR (K.take j) r)) (hb : (kx + vx) + ((kx + vx) + (u + u)) + 1 ≤ 60000000)
    (hQ : Q (.d (TR (restR K r))) S) : (FT n i_Space_rest [x, .d (TR r)] S).sat Q := by
  obtain ⟨n, rfl⟩ : ∃ k, n = k + 1 := ⟨n - 1, by omega⟩
  rw [FT_Space_rest]
  with_reducible refine run_sat (by simp) ?_
  unfold c_Space_rest
  with_reducible refine rs_cut (fun e S1 => S1 = S ∧ ∃ x0 x2, e = [x0, some (.d (TR (restR K r))), x2]) ?_ ?_
  · have hi : (dAttr 1/-S-/ 0 (dVar 0) [some x, some (.d (TR r)), none] S) = .ok (.d (TT K)) S := by
      rcases hx with rfl | ⟨i, rfl, hi⟩
      · rfl
      · simp [hi]
    with_reducible refine rs_for.mpr ?_
    show R.sat ((dAttr 1/-S-/ 0 (dVar 0) [some x, some (.d (TR r)), none] S).bind _) _
    rw [hi]
    show R.sat (R.ok ((K.map TR).map W.d, fun _ => True) S) _
    rw [sat_ok]
    refine for_sat (fun j e S1 => S1 = S ∧ ∃ x0 x2, e = [x0, some (.d (TR (restR (K.take j) r))), x2]) ⟨rfl, _, _, rfl⟩ ?_ ?_
    · rintro j y e S1 hy ⟨rfl, x0, x2, rfl⟩
      obtain ⟨k, hk, rfl⟩ : ∃ k, K[j]? = some k ∧ y = W.d (TR k) := by
        rw [List.getElem?_map, List.getElem?_map] at hy
        cases q : K[j]? with
        | none => rw [q] at hy; cases hy
        | some k => rw [q] at hy; cases hy; exact ⟨k, rfl, rfl⟩
      have mk := List.mem_of_getElem? hk
      have hkl := h.len k mk
      have hlt := h.lt k mk
      have hrl := restR_len (K := K.take j) (fun a m => h.len a (List.mem_of_mem_take m)) hr
      have hs := rz_sz (hq j)
      have hss := rz_sz (hz.rz k mk)
      refine ⟨trivial, _, rfl, ?_⟩
      simp!
      refine leading_ok (by omega) (by omega) ?_
      simp! [atI_vc (show ld k < (restR (K.take j) r).length by omega)]
      refine less_ok (a := kx + vx) (b := kx + vx) (e := u + u) (by omega) (by omega) (by omega) hs (hs _ (vc_in (by omega))) hss hb ?_
      simp!
      rw [List.take_add_one, hk]
      show ∃ x0 x2, _ = [x0, some (W.d (TR (restR (K.take j ++ [k]) r))), x2]
      rw [restR_snoc]
      exact ⟨_, _, rfl⟩
    · rintro e S1 ⟨rfl, x0, x2, rfl⟩
      rw [List.length_map, List.length_map, List.take_length]
      exact ⟨trivial, rfl, _, _, rfl⟩
  intro e S1 hh
  obtain ⟨hS, x0, x2, hE⟩ := hh
  subst hS hE
  simp!
  rw [List.take_length]
  exact hQ
theorem has_ok {n w u kx vx : Nat} {x : W} {K : List (List Rat)} {r : List Rat} {S : Sto} {Q : W → Sto → Prop} (hn : 7 ≤ n) (hx : SpaceAt x S K) (h : Rf w K) (hr : r.length = w) (hw : w ≤ 1000000) (hz : SpZ u K) (hq : ∀ j, Rz kx vx (restR (K.take j) r)) (hb : (kx + vx) + ((kx + vx) + (u + u)) + 1 ≤ 60000000)
    (hQ : Q (.d (.bl (decide (ld (restR K r) = w)))) S) : (FT n i_Space_has [x, .d (TR r)] S).sat Q := by
  obtain ⟨n, rfl⟩ : ∃ k, n = k + 1 := ⟨n - 1, by omega⟩
  have hrl := restR_len h.len hr
  have zw : w ≤ sizeLine := Nat.le_trans hw (by decide)
  have fin : ∀ x, x = ((ld (restR K r) : Nat) : Int) → (decide (x = ((w : Nat) : Int))) = decide (ld (restR K r) = w) := fun x e => by
    subst e
    congr 1
    exact propext (by omega)
  rw [FT_Space_has]
  with_reducible refine run_sat (by simp) ?_
  unfold c_Space_has
  rcases hx with rfl | ⟨i, rfl, hi⟩
  · simp!
    refine rest_ok (by omega) (.inl rfl) h hr hw hz hq hb ?_
    simp!
    refine leading_ok (by omega) (by omega) ?_
    simp! [List.length_map, hr, zw, fin _ rfl]
    rw [List.take_length]
    exact hQ
  · simp! [hi]
    refine rest_ok (by omega) (.inr ⟨i, rfl, hi⟩) h hr hw hz hq hb ?_
    simp!
    refine leading_ok (by omega) (by omega) ?_
    simp! [List.length_map, hr, zw, fin _ rfl]
    rw [List.take_length]
    exact hQ
theorem grow_ok {n w u kx vx ky vy i : Nat} {K : List (List Rat)} {r : List Rat} {S : Sto} {Q : W → Sto → Prop} (hn : 8 ≤ n) (hi : S[i]? = some (.ins 1/-S-/ [.d (TT K)])) (h : Rf w K) (hr : r.length = w) (hw : w ≤ 1000000) (hKl : K.length ≤ 1000000) (hz : SpZ u K)
    (g1 : ∀ j, Rz kx vx (restR (K.take j) r)) (g2 : ld (restR K r) < w → Rz ky vy (scaleR (restR K r) (vc (restR K r) (ld (restR K r)))⁻¹)) (hb : 2 * (kx + vx) + 4 * u + (ky + vy) + 1 ≤ 60000000)
    (hQ : Q (.d (.bl (decide (ld (restR K r) ≠ w)))) (S.set i (.ins 1/-S-/ [.d (TT (growR K r))]))) : (FT n i_Space_grow [.c i, .d (TR r)] S).sat Q := by
  obtain ⟨n, rfl⟩ : ∃ k, n = k + 1 := ⟨n - 1, by omega⟩
  have hrl := restR_len h.len hr
  have hle := ld_le (restR K r)
  have zw : w ≤ sizeLine := Nat.le_trans hw (by decide)
  have hil : i < S.length := (List.getElem?_eq_some_iff.mp hi).1
  rw [FT_Space_grow]
  with_reducible refine run_sat (by simp) ?_
  unfold c_Space_grow
  simp_all! [hi]
  refine rest_ok (by omega) (.inr ⟨i, rfl, hi⟩) h hr hw hz g1 (by omega) ?_
  simp!
  simp_all!
  refine leading_ok (by omega) (by omega) ?_
  simp!
  with_reducible refine rs_cut (fun e S1 => S1 = S ∧ ld (restR K r) < w ∧ e = [some (.c i), some (.d (TR (restR K r))), some (.d (.int (ld (restR K r) : Nat))), none, none]) ?_ ?_
  · simp! [List.length_map, hrl, zw]
    refine br_of (fun h1 => ?_) (fun h1 => ?_)
    · have h1 : ld (restR K r) = w := by omega
      have e1 : growR K r = K := by unfold growR; rw [if_pos (by rw [h1, hr])]
      rw [e1, set_same hi, show decide (ld (restR K r) ≠ w) = false by simp [h1]] at hQ
      simp!
      rw [List.take_length]
      exact hQ
    · have h1 : ld (restR K r) ≠ w := by omega
      simp!
      omega
  intro e S1 hh
  obtain ⟨hS, hlt, hE⟩ := hh
  subst hS hE
  have y1 := g2 hlt
  have hg : growR K r = sortR (K.map (fun k => lessR k (vc k (ld (restR K r))) (scaleR (restR K r) (vc (restR K r) (ld (restR K r)))⁻¹)) ++ [scaleR (restR K r) (vc (restR K r) (ld (restR K r)))⁻¹]) := by
    unfold growR
    rw [if_neg (by rw [hr]; omega)]
  have hne : vc (restR K r) (ld (restR K r)) ≠ 0 := ld_ne (by omega)
  have hxz := rz_sz (g1 K.length)
  rw [List.take_length] at hxz
  have hyz := rz_sz y1
  have hdec : decide (ld (restR K r) ≠ w) = true := by simp; omega
  rw [hdec, hg] at hQ
  have hrld := (fun k m => h.lt k m)
  generalize restR K r = x at hrl hle hlt hQ hne hxz hyz y1 hdec ⊢
  generalize hp : ld x = p at hle hlt hQ hne hyz y1 hdec ⊢
  have ylen : (scaleR x (vc x p)⁻¹).length = w := by unfold scaleR; rw [List.length_map, hrl]
  simp_all! [atI_vc (show p < x.length by omega)]
  refine mk_ok (k := 1) (by omega) (by decide) (by decide) (by decide) (by decide) ?_
  rw [show Rat.divInt 1 1 = 1 from rfl]
  simp! [atI_vc (show p < x.length by omega)]
  refine over_ok (k := 1) (by omega) ⟨by decide, by decide⟩ (hxz _ (vc_in (by omega))) hne (by omega) ?_
  rw [Rat.one_mul]
  simp!
  have hiz : Sz (kx + vx) (vc x p)⁻¹ := by
    exact sz_inv (hxz _ (vc_in (r := x) (j := p) (by omega))) hne
  refine scaledrow_ok (by omega) (by omega) hxz hiz (by omega) ?_
  simp!
  generalize hy : scaleR x (vc x p)⁻¹ = y at hQ hyz y1 ylen ⊢
  simp_all! [hi]
  refine comp_each (l := K) (mk := fun k => W.d (TR k)) (f := fun k => TR (lessR k (vc k p) y)) (by simp) ?_ trivial ?_
  · intro k m
    have hkl := h.len k m
    refine ⟨_, rfl, ?_⟩
    simp! [atI_vc (show p < k.length by omega)]
    have hkz := rz_sz (hz.rz k m)
    refine less_ok (a := u + u) (b := u + u) (e := ky + vy) (by omega) (by omega) (by omega) hkz (hkz _ (vc_in (by omega))) hyz (by omega) ?_
    exact ⟨rfl, rfl⟩
  have zK : K.length ≤ 16777216 := by omega
  have zK1 : 1 ≤ sizeLine := by decide
  have zK2 : K.length + 1 ≤ sizeLine := Nat.le_trans (show K.length + 1 ≤ 1000001 by omega) (by decide)
  simp! [plainL_map, zK]
  simp_all! [↓s_sortK, zK1, List.length_map, zK2, List.length_append]
  have emap : K.map (fun k => TR (lessR k (vc k p) y)) ++ [TR y] = (K.map (fun k => lessR k (vc k p) y) ++ [y]).map TR := by
    rw [List.map_append, List.map_map]
    rfl
  rw [emap]
  have hlen : ∀ a ∈ K.map (fun k => lessR k (vc k p) y) ++ [y], a.length = w := fun a m => by
    rcases List.mem_append.mp m with m | m
    · obtain ⟨k, mk, rfl⟩ := List.mem_map.mp m
      exact lessR_len (h.len k mk) ylen
    · rw [List.mem_singleton.mp m]
      exact ylen
  refine sortK_sat keyD ?_ (by simpa using zK2) ?_
  · intro d md
    obtain ⟨a, ma, rfl⟩ := List.mem_map.mp md
    obtain ⟨m, rfl⟩ : ∃ k, n = k + 1 := ⟨n - 1, by omega⟩
    rw [show FI (m + 1) = FT m from rfl]
    obtain ⟨x, S', e1, e2, e3⟩ := sat_get (leading_ok (n := m) (r := a) (S := S1) (Q := fun w S' => w = .d (.int (ld a : Nat)) ∧ S' = S1) (by omega) (by rw [hlen a ma]; omega) ⟨rfl, rfl⟩)
    subst e2 e3
    rw [keyD_tr]
    exact e1
  rw [sort_map]
  simp! [hi]
  rw [List.take_of_length_le (by simp)]
  exact hQ
/-- the space of rows -/
def spanR (t : List (List Rat)) : List (List Rat) := t.foldl growR []
theorem spanR_snoc (t : List (List Rat)) (r : List Rat) : spanR (t ++ [r]) = growR (spanR t) r := by
  unfold spanR
  rw [List.foldl_append]
  rfl
theorem span_ind {P : List (List Rat) → Prop} (nil : P []) (snoc : ∀ w c, P w → P (w ++ [c])) (w : List (List Rat)) : P w := by
  have key : ∀ l : List (List Rat), P l.reverse := fun l => by
    induction l with
    | nil => exact nil
    | cons a l ih => rw [List.reverse_cons]; exact snoc _ _ ih
  have := key w.reverse
  rwa [List.reverse_reverse] at this
theorem span_rf {w : Nat} {t : List (List Rat)} (h : ∀ r ∈ t, r.length = w) : Rf w (spanR t) ∧ ∀ v, Sp (spanR t) v ↔ Sp t v := by
  induction t using span_ind with
  | nil => exact ⟨Rf.nil, fun v => Iff.rfl⟩
  | snoc t r ih =>
    obtain ⟨h1, h2⟩ := ih fun a m => h a (by simp [m])
    rw [spanR_snoc]
    obtain ⟨g1, g2⟩ := grow_rf h1 (h r (by simp))
    refine ⟨g1, fun v => (g2 v).trans ⟨fun s => s.mono fun a m => ?_, fun s => s.mono fun a m => ?_⟩⟩
    · rcases List.mem_append.mp m with m | m
      · exact ((h2 _).mp (Sp.mem m)).mono fun b mb => Sp.mem (by simp [mb])
      · exact Sp.mem (by simp [List.mem_singleton.mp m])
    · rcases List.mem_append.mp m with m | m
      · exact ((h2 _).mpr (Sp.mem m)).mono fun b mb => Sp.mem (by simp [mb])
      · exact Sp.mem (by simp [List.mem_singleton.mp m])
theorem growR_new {K : List (List Rat)} {r : List Rat} (h : ld (restR K r) ≠ r.length) : growR K r = sortR (K.map (fun k => lessR k (vc k (ld (restR K r))) (scaleR (restR K r) (vc (restR K r) (ld (restR K r)))⁻¹)) ++ [scaleR (restR K r) (vc (restR K r) (ld (restR K r)))⁻¹]) := by
  unfold growR
  rw [if_neg h]
theorem growR_len (K : List (List Rat)) (r : List Rat) : (growR K r).length = if ld (restR K r) = r.length then K.length else K.length + 1 := by
  unfold growR
  split
  · rfl
  · rw [(sortR_perm _).length_eq]
    simp
theorem spanR_len (t : List (List Rat)) : (spanR t).length ≤ t.length := by
  induction t using span_ind with
  | nil => exact Nat.le_refl _
  | snoc t r ih =>
    rw [spanR_snoc, growR_len, List.length_append, List.length_singleton]
    split <;> omega
theorem take_get {α : Type} {t : List α} {j : Nat} {r : α} (h : t[j]? = some r) : t.take (j + 1) = t.take j ++ [r] := by
  rw [List.take_add_one, h]
  rfl
/-- the sizes on the way -/
structure Way (u kx vx ky vy w : Nat) (t : List (List Rat)) : Prop where
  z : ∀ j, j < t.length → SpZ u (spanR (t.take j))
  x : ∀ j r, t[j]? = some r → ∀ i, Rz kx vx (restR ((spanR (t.take j)).take i) r)
  y : ∀ j r, t[j]? = some r → ld (restR (spanR (t.take j)) r) < w → Rz ky vy (scaleR (restR (spanR (t.take j)) r) (vc (restR (spanR (t.take j)) r) (ld (restR (spanR (t.take j)) r)))⁻¹)
theorem space_ok {n w u kx vx ky vy : Nat} {x : D} {t : List (List Rat)} {S : Sto} {Q : W → Sto → Prop} (hn : 10 ≤ n) (hx : x = TT t ∨ x = .lst (t.map TR)) (hl : ∀ r ∈ t, r.length = w) (hw : w ≤ 1000000) (ht : t.length ≤ 1000000) (hz : Way u kx vx ky vy w t) (hb : 2 * (kx + vx) + 4 * u + (ky + vy) + 1 ≤ 60000000)
    (hQ : Q (.d (.obj 1/-S-/ [TT (spanR t)])) S) : (FT n i_space_of [.d x] S).sat Q := by
  obtain ⟨n, rfl⟩ : ∃ k, n = k + 3 := ⟨n - 3, by omega⟩
  have z0 : (0 : Nat) ≤ sizeLine := by decide
  have mk : (mkC (FI (n + 2)) 1/-S-/ i_Space___init__ 1 [] S).sat fun v S1 => v = .c S.length ∧ S1 = S ++ [.ins 1/-S-/ [.d (TT [])]] := by
    unfold mkC
    rw [if_pos (show ([] : List W).length + 1 = 1 from rfl), show FI (n + 2) = FT (n + 1) from rfl]
    have key : (FT (n + 1) i_Space___init__ [.c S.length] (S ++ [.ins 1/-S-/ []])).sat fun v S1 => v = .d .non ∧ S1 = S ++ [.ins 1/-S-/ [.d (TT [])]] := by
      rw [FT_Space___init__]
      with_reducible refine run_sat (by simp) ?_
      unfold c_Space___init__
      have e0 : (S ++ [Ce.ins 1/-S-/ []])[S.length]? = some (.ins 1/-S-/ []) := by simp
      have e1 : ∀ o, (S ++ [Ce.ins 1/-S-/ []]).set S.length o = S ++ [o] := fun o => by simp
      simp! [z0, e0, e1]
      rw [List.take_of_length_le (by simp)]
      rfl
    obtain ⟨v, S', e, rfl, rfl⟩ := sat_get key
    rw [e]
    exact ⟨rfl, rfl⟩
  obtain ⟨v0, S0, e0, rfl, rfl⟩ := sat_get mk
  rw [FT_space_of]
  with_reducible refine run_sat (by simp) ?_
  unfold c_space_of
  with_reducible refine rs_cut (fun e S1 => e = [some (.d x), some (.c S.length), none] ∧ S1 = S ++ [.ins 1/-S-/ [.d (TT [])]]) ?_ ?_
  · simp!
    rw [e0]
    simp!
  intro e S1 hh
  obtain ⟨hE, hS⟩ := hh
  subst hE hS
  have gi : ∀ c : Ce, (S ++ [c])[S.length]? = some c := fun c => by simp
  have gs : ∀ c c2 : Ce, (S ++ [c]).set S.length c2 = S ++ [c2] := fun c c2 => by simp
  have step : ∀ (j : Nat) (r : List Rat) (e : Py.Env), t[j]? = some r → e = [none, some (.c S.length), some (.d (TR r))] → (sExpr (dMeth (FT (n + 2)) 1/-S-/ i_Space_grow 2 (dVar 1) (dCons (dVar 2) dNil)) e (S ++ [.ins 1/-S-/ [.d (TT (spanR (t.take j)))]])).sat
      (fun e2 S2 => e2 = e ∧ S2 = S ++ [.ins 1/-S-/ [.d (TT (spanR (t.take (j + 1))))]]) (fun _ _ => False) (fun _ _ => False) (fun _ _ => False) := by
    intro j r e hr he
    subst he
    have mr := List.mem_of_getElem? hr
    have hlen : ∀ a ∈ t.take j, a.length = w := fun a m => hl a (List.mem_of_mem_take m)
    obtain ⟨f1, f2⟩ := span_rf hlen
    have hjl := (List.getElem?_eq_some_iff.mp hr).1
    have hkl := spanR_len (t.take j)
    rw [List.length_take] at hkl
    simp! [gi]
    refine grow_ok (by omega) (gi _) f1 (hl r mr) hw (by omega) (hz.z j hjl) (hz.x j r hr) (hz.y j r hr) hb ?_
    rw [gs, take_get hr, spanR_snoc]
    exact ⟨rfl, rfl⟩
  with_reducible refine rs_cut (fun e S1 => ∃ x0 x2, e = [x0, some (.c S.length), x2] ∧ S1 = S ++ [.ins 1/-S-/ [.d (TT (spanR t))]]) ?_ ?_
  · have hit : (R.ok (W.d x) (S ++ [Ce.ins 1/-S-/ [.d (TT [])]])).sat fun y S1 => (itR y S1).sat fun p S2 => p = ((t.map TR).map W.d, fun _ => True) ∧ S2 = S ++ [Ce.ins 1/-S-/ [.d (TT [])]] := by
      rcases hx with rfl | rfl <;> exact ⟨rfl, rfl⟩
    with_reducible refine rs_for.mpr ?_
    rw [s_any]
    refine sat_mono (Q := fun y S1 => y = .d x ∧ S1 = S ++ [Ce.ins 1/-S-/ [.d (TT [])]]) (show R.sat (R.ok (W.d x) _) _ from ⟨rfl, rfl⟩) ?_
    rintro y S1 ⟨rfl, rfl⟩
    refine sat_mono (hit : (itR (W.d x) _).sat _) ?_
    rintro p S1 ⟨rfl, rfl⟩
    refine for_sat (fun j e S1 => ∃ x0 x2, e = [x0, some (.c S.length), x2] ∧ S1 = S ++ [.ins 1/-S-/ [.d (TT (spanR (t.take j)))]]) ⟨_, _, rfl, rfl⟩ ?_ ?_
    · rintro j y e S1 hy ⟨x0, x2, rfl, rfl⟩
      obtain ⟨r, hr, rfl⟩ : ∃ r, t[j]? = some r ∧ y = W.d (TR r) := by
        rw [List.getElem?_map, List.getElem?_map] at hy
        cases q : t[j]? with
        | none => rw [q] at hy; cases hy
        | some r => rw [q] at hy; cases hy; exact ⟨r, rfl, rfl⟩
      refine ⟨trivial, _, rfl, ?_⟩
      refine rs_mono (step j r _ hr rfl) ?_ (fun _ _ z => z.elim) (fun _ _ z => z.elim) (fun _ _ z => z.elim)
      rintro e2 S2 ⟨rfl, rfl⟩
      exact ⟨_, _, rfl, rfl⟩
    · rintro e S1 ⟨x0, x2, rfl, rfl⟩
      rw [List.length_map, List.length_map, List.take_length]
      exact ⟨trivial, _, _, rfl, rfl⟩
  intro e S1 hh
  obtain ⟨x0, x2, hE, hS⟩ := hh
  subst hE hS
  simp! [↓q_frzI, frzI, gi, gs]
  rw [List.take_append_of_le_length (Nat.le_refl _), List.take_length]
  exact hQ
theorem reduced_ok {n w u kx vx ky vy : Nat} {x : D} {t : List (List Rat)} {S : Sto} {Q : W → Sto → Prop} (hn : 11 ≤ n) (hx : x = TT t ∨ x = .lst (t.map TR)) (hl : ∀ r ∈ t, r.length = w) (hw : w ≤ 1000000) (ht : t.length ≤ 1000000) (hz : Way u kx vx ky vy w t) (hb : 2 * (kx + vx) + 4 * u + (ky + vy) + 1 ≤ 60000000)
    (hQ : Q (.d (TT (spanR t))) S) : (FT n i_reduced [.d x] S).sat Q := by
  obtain ⟨n, rfl⟩ : ∃ k, n = k + 1 := ⟨n - 1, by omega⟩
  rw [FT_reduced]
  with_reducible refine run_sat (by simp) ?_
  unfold c_reduced
  simp!
  refine space_ok (by omega) hx hl hw ht hz hb ?_
  simp!
  rw [List.take_length]
  exact hQ
theorem rank_ok {n w u kx vx ky vy : Nat} {x : D} {t : List (List Rat)} {S : Sto} {Q : W → Sto → Prop} (hn : 12 ≤ n) (hx : x = TT t ∨ x = .lst (t.map TR)) (hl : ∀ r ∈ t, r.length = w) (hw : w ≤ 1000000) (ht : t.length ≤ 1000000) (hz : Way u kx vx ky vy w t) (hb : 2 * (kx + vx) + 4 * u + (ky + vy) + 1 ≤ 60000000)
    (hQ : Q (.d (.int ((spanR t).length : Nat))) S) : (FT n i_rank [.d x] S).sat Q := by
  obtain ⟨n, rfl⟩ : ∃ k, n = k + 1 := ⟨n - 1, by omega⟩
  have hs := spanR_len t
  have zs : (spanR t).length ≤ sizeLine := Nat.le_trans (Nat.le_trans hs ht) (by decide)
  rw [FT_rank]
  with_reducible refine run_sat (by simp) ?_
  unfold c_rank
  simp!
  refine reduced_ok (by omega) hx hl hw ht hz hb ?_
  simp! [List.length_map, zs]
  rw [List.take_length]
  exact hQ
theorem span_len {w N : Nat} {t : List (List Rat)} (hl : ∀ r ∈ t, r.length = w) (hN : w ≤ N ∨ t.length ≤ N) (j : Nat) : (spanR (t.take j)).length ≤ N := by
  have h1 := spanR_len (t.take j)
  rw [List.length_take] at h1
  have h2 := rf_len (span_rf (w := w) (t := t.take j) fun r m => hl r (List.mem_of_mem_take m)).1
  omega
theorem span_fr {w kr vr c N : Nat} {t : List (List Rat)} (hl : ∀ r ∈ t, r.length = w) (hz : ∀ r ∈ t, Rz kr vr r) (hN : w ≤ N ∨ t.length ≤ N) (hc : N + 1 ≤ 2 ^ c) : ∀ j, SpZ (uB (kr + vr + c) (spanR (t.take j)).length) (spanR (t.take j)) := by
  have ub1 : ∀ n, 1 ≤ uB (kr + vr + c) n := fun n => uB_mono _ (Nat.zero_le n)
  have klen : ∀ j, (spanR (t.take j)).length ≤ N := fun j => by
    have h1 := spanR_len (t.take j)
    rw [List.length_take] at h1
    have h2 := rf_len (span_rf (w := w) (t := t.take j) fun r m => hl r (List.mem_of_mem_take m)).1
    omega
  intro j
  induction j with
  | zero => exact ⟨1, by decide, Nat.one_lt_two_pow (by have := ub1 (spanR (t.take 0)).length; omega), fun k m => by cases m⟩
  | succ j ih =>
    by_cases hj : j < t.length
    · have hr : t[j]? = some t[j] := List.getElem?_eq_getElem hj
      have mr := List.mem_of_getElem? hr
      have hf := (span_rf (w := w) (t := t.take j) fun r m => hl r (List.mem_of_mem_take m)).1
      have kl := klen j
      obtain ⟨g1, g2⟩ := grow_fr hf (hl _ mr) ih (hz _ mr) (c := c) (by omega) (ub1 _)
      rw [take_get hr, spanR_snoc, growR_len]
      split
      · rename_i e
        have : growR (spanR (t.take j)) t[j] = spanR (t.take j) := by unfold growR; rw [if_pos e]
        rw [this]
        exact ih
      · rename_i e
        have hle := ld_le (restR (spanR (t.take j)) t[j])
        rw [restR_len hf.len (hl _ mr)] at hle
        rw [hl _ mr] at e
        obtain ⟨_, g3, _⟩ := g2 (by omega)
        rw [growR_new (by rw [hl _ mr]; exact e)]
        exact SpZ.perm g3 (sortR_perm _)
    · have e1 : t.take (j + 1) = t.take j := by rw [List.take_of_length_le (by omega), List.take_of_length_le (by omega)]
      rw [e1]
      exact ih
theorem span_z {w kr vr c N : Nat} {t : List (List Rat)} (hl : ∀ r ∈ t, r.length = w) (hz : ∀ r ∈ t, Rz kr vr r) (hN : w ≤ N ∨ t.length ≤ N) (hc : N + 1 ≤ 2 ^ c) : SpZ (uB (kr + vr + c) N) (spanR t) := by
  have h := span_fr hl hz hN hc t.length
  have k := span_len hl hN t.length
  rw [List.take_length] at h k
  exact h.mono (uB_mono _ k)
/-- the way, by the sizes of the rows -/
theorem way_fr {w kr vr c N : Nat} {t : List (List Rat)} (hl : ∀ r ∈ t, r.length = w) (hz : ∀ r ∈ t, Rz kr vr r) (hN : w ≤ N ∨ t.length ≤ N) (hc : N + 1 ≤ 2 ^ c) :
    Way (uB (kr + vr + c) N) (uB (kr + vr + c) N + kr) (uB (kr + vr + c) N + vr + c) (2 * uB (kr + vr + c) N + (kr + vr + c)) (2 * uB (kr + vr + c) N + (kr + vr + c)) w t := by
  have ub1 : ∀ n, 1 ≤ uB (kr + vr + c) n := fun n => uB_mono _ (Nat.zero_le n)
  have klen : ∀ j, (spanR (t.take j)).length ≤ N := fun j => by
    have h1 := spanR_len (t.take j)
    rw [List.length_take] at h1
    have h2 := rf_len (span_rf (w := w) (t := t.take j) fun r m => hl r (List.mem_of_mem_take m)).1
    omega
  have key := span_fr hl hz hN hc
  refine ⟨fun j _ => (key j).mono (uB_mono _ (klen j)), fun j r hr i => ?_, fun j r hr hlt => ?_⟩
  · have mr := List.mem_of_getElem? hr
    have hf := (span_rf (w := w) (t := t.take j) fun r m => hl r (List.mem_of_mem_take m)).1
    have kl := klen j
    have um := uB_mono (kr + vr + c) (klen j)
    exact rz_mono ((grow_fr hf (hl _ mr) (key j) (hz _ mr) (c := c) (by omega) (ub1 _)).1 i) (by omega) (by omega)
  · have mr := List.mem_of_getElem? hr
    have hf := (span_rf (w := w) (t := t.take j) fun r m => hl r (List.mem_of_mem_take m)).1
    have kl := klen j
    have um := uB_mono (kr + vr + c) (klen j)
    exact rz_mono ((grow_fr hf (hl _ mr) (key j) (hz _ mr) (c := c) (by omega) (ub1 _)).2 hlt).1 (by omega) (by omega)
theorem Rf.take {w : Nat} {K : List (List Rat)} (h : Rf w K) (j : Nat) : Rf w (K.take j) :=
  ⟨fun k m => h.len k (List.mem_of_mem_take m), fun k m => h.lt k (List.mem_of_mem_take m), fun k m => h.one k (List.mem_of_mem_take m), h.srt.sublist (List.take_sublist _ _)⟩
/-- a table in reduced form is its own -/
theorem span_self {w : Nat} {K : List (List Rat)} (h : Rf w K) : spanR K = K := by
  obtain ⟨h1, h2⟩ := span_rf h.len
  exact rf_one h1 h h2
/-- .. and nothing grows on the way -/
theorem way_self {w u : Nat} {K : List (List Rat)} (h : Rf w K) (hz : SpZ u K) : Way u u u u u w K := by
  have hs : ∀ j, spanR (K.take j) = K.take j := fun j => span_self (h.take j)
  have rest : ∀ j r, K[j]? = some r → ∀ i, restR ((K.take j).take i) r = r := fun j r hr i => by
    have mr := List.mem_of_getElem? hr
    have hf := (h.take j).take i
    refine vc_ext (by rw [restR_len hf.len (h.len r mr), h.len r mr]) fun q => ?_
    rw [restR_vc hf (h.len r mr)]
    have : pj ((K.take j).take i) (vc r) q = 0 := pj_zero' _ (fun k mk => by
      have mk' : k ∈ K.take j := List.mem_of_mem_take mk
      have hsp := h.srt
      have hjl := (List.getElem?_eq_some_iff.mp hr).1
      have hin : r ∈ K.drop j := by
        rw [List.drop_eq_getElem_cons hjl, (List.getElem?_eq_some_iff.mp hr).2]
        exact List.mem_cons_self
      rw [← List.take_append_drop j K, List.pairwise_append] at hsp
      exact ld_low (hsp.2.2 k mk' r hin).1) q
    rw [this]
    grind
  refine ⟨fun j _ => ?_, fun j r hr i => ?_, fun j r hr hlt => ?_⟩
  · rw [hs]
    obtain ⟨d, a, b, c⟩ := hz
    exact ⟨d, a, b, fun k m => c k (List.mem_of_mem_take m)⟩
  · rw [hs, rest j r hr]
    exact hz.rz r (List.mem_of_getElem? hr)
  · have mr := List.mem_of_getElem? hr
    have e := rest j r hr j
    rw [List.take_take, Nat.min_self] at e
    rw [hs, e, h.one r mr]
    have : scaleR r (1 : Rat)⁻¹ = r := by
      refine vc_ext (by unfold scaleR; rw [List.length_map]) fun q => ?_
      rw [scaleR_vc]
      grind
    rw [this]
    exact hz.rz r mr
end Lw

namespace Lw
open PySem PySem.Spec PyProof.Rows L2 Py
/-! sums by told numbers; solve -/
def cmb : List Rat → List (List Rat) → Vc
  | c :: cs, a :: A => fun j => c * vc a j + cmb cs A j
  | _, _ => fun _ => 0
theorem cmb_sp : ∀ {cs : List Rat} {A R : List (List Rat)}, (∀ a ∈ A, a ∈ R) → Sp R (cmb cs A)
  | [], _, _, _ => .zero
  | _ :: _, [], _, _ => .zero
  | c :: cs, a :: A, R, h => by
    have h1 := (cmb_sp (cs := cs) (A := A) fun b m => h b (by simp [m])).plus ((Sp.mem (h a (by simp))).scal c)
    have e : (fun j => cmb cs A j + c * vc a j) = cmb (c :: cs) (a :: A) := by
      funext j
      show _ = c * vc a j + cmb cs A j
      grind
    rwa [e] at h1
theorem cmb_add : ∀ {cs ds : List Rat} {A : List (List Rat)}, cs.length = ds.length → ∀ (x : Rat) (j : Nat), cmb (List.zipWith (fun c d => c + x * d) cs ds) A j = cmb cs A j + x * cmb ds A j
  | [], [], A, _, x, j => by
    show (0 : Rat) = 0 + x * 0
    grind
  | [], _ :: _, _, h, _, _ => by simp at h
  | _ :: _, [], _, h, _, _ => by simp at h
  | c :: cs, d :: ds, [], _, x, j => by
    show (0 : Rat) = 0 + x * 0
    grind
  | c :: cs, d :: ds, a :: A, h, x, j => by
    show (c + x * d) * vc a j + cmb (List.zipWith _ cs ds) A j = (c * vc a j + cmb cs A j) + x * (d * vc a j + cmb ds A j)
    rw [cmb_add (by simpa using h)]
    grind
theorem cmb_zeros : ∀ (n : Nat) (A : List (List Rat)) (j : Nat), cmb (List.replicate n 0) A j = 0
  | 0, _, _ => rfl
  | _ + 1, [], _ => rfl
  | n + 1, a :: A, j => by
    show 0 * vc a j + cmb (List.replicate n 0) A j = 0
    rw [cmb_zeros]
    grind
/-- the row of the numbers 0 but x at i -/
theorem cmb_one : ∀ {A : List (List Rat)} {i : Nat} {a : List Rat}, A[i]? = some a → ∀ (x : Rat) (j : Nat), cmb ((List.replicate A.length 0).set i x) A j = x * vc a j
  | b :: A, 0, a, h, x, j => by
    cases h
    show x * vc b j + cmb (List.replicate A.length 0) A j = _
    rw [cmb_zeros]
    grind
  | b :: A, i + 1, a, h, x, j => by
    show 0 * vc b j + cmb ((List.replicate A.length 0).set i x) A j = _
    rw [cmb_one (by simpa using h)]
    grind
theorem sp_cmb {A : List (List Rat)} {v : Vc} (h : Sp A v) : ∃ cs : List Rat, cs.length = A.length ∧ ∀ j, v j = cmb cs A j := by
  induction h with
  | zero => exact ⟨List.replicate A.length 0, by simp, fun j => (cmb_zeros _ _ _).symm⟩
  | @add v r c m _ ih =>
    obtain ⟨cs, h1, h2⟩ := ih
    obtain ⟨i, hi, rfl⟩ := List.getElem_of_mem m
    refine ⟨List.zipWith (fun c d => c + 1 * d) cs ((List.replicate A.length 0).set i c), by simp [h1], fun j => ?_⟩
    rw [cmb_add (by simp [h1]), cmb_one (List.getElem?_eq_getElem hi), ← h2]
    grind
/-- independent rows -/
def Ind (A : List (List Rat)) : Prop := ∀ cs : List Rat, cs.length = A.length → (∀ j, cmb cs A j = 0) → ∀ c ∈ cs, c = 0
theorem cmb_snoc : ∀ {cs : List Rat} {A : List (List Rat)}, cs.length = A.length → ∀ (c : Rat) (a : List Rat) (j : Nat), cmb (cs ++ [c]) (A ++ [a]) j = cmb cs A j + c * vc a j
  | [], [], _, c, a, j => by
    show c * vc a j + 0 = 0 + c * vc a j
    grind
  | [], _ :: _, h, _, _, _ => by simp at h
  | _ :: _, [], h, _, _, _ => by simp at h
  | d :: cs, b :: A, h, c, a, j => by
    show d * vc b j + cmb (cs ++ [c]) (A ++ [a]) j = d * vc b j + cmb cs A j + c * vc a j
    rw [cmb_snoc (by simpa using h)]
    grind
/-- as many as the rank: independent -/
theorem ind_of_rank {w : Nat} {A : List (List Rat)} (hl : ∀ a ∈ A, a.length = w) (h : (spanR A).length = A.length) : Ind A := by
  induction A using span_ind with
  | nil =>
    intro cs hc _ c m
    have : cs = [] := List.eq_nil_of_length_eq_zero (by simpa using hc)
    rw [this] at m
    cases m
  | snoc A a ih =>
    have hlA : ∀ b ∈ A, b.length = w := fun b m => hl b (by simp [m])
    have hla := hl a (by simp)
    have h1 := spanR_len A
    rw [spanR_snoc, growR_len, List.length_append, List.length_singleton] at h
    have hne : ¬ ld (restR (spanR A) a) = a.length := fun e => by
      rw [if_pos e] at h
      omega
    rw [if_neg hne] at h
    have hA := ih hlA (by omega)
    obtain ⟨s1, s2⟩ := span_rf hlA
    have hout : ¬ Sp A (vc a) := fun s => hne (by rw [hla]; exact (restR_in s1 hla).mpr ((s2 _).mpr s))
    intro cs hc hz
    obtain ⟨ds, c, rfl⟩ : ∃ ds c, cs = ds ++ [c] := by
      have hcl : cs ≠ [] := by
        rintro rfl
        simp at hc
      exact ⟨cs.dropLast, cs.getLast hcl, (List.dropLast_concat_getLast hcl).symm⟩
    have hd : ds.length = A.length := by simpa using hc
    have hz2 : ∀ j, cmb ds A j + c * vc a j = 0 := fun j => by rw [← cmb_snoc hd]; exact hz j
    have hc0 : c = 0 := by
      by_cases q : c = 0
      · exact q
      · exfalso
        apply hout
        have h3 := (cmb_sp (cs := ds) (A := A) (R := A) fun _ m => m).scal (-c⁻¹)
        have e : (fun j => -c⁻¹ * cmb ds A j) = vc a := by
          funext j
          have h4 := hz2 j
          have h5 : c * c⁻¹ = 1 := Rat.mul_inv_cancel _ q
          have h6 : cmb ds A j = -(c * vc a j) := by grind
          rw [h6]
          have : -c⁻¹ * -(c * vc a j) = (c * c⁻¹) * vc a j := by grind
          rw [this, h5]
          grind
        rwa [e] at h3
    subst hc0
    have h7 := hA ds hd fun j => by
      have := hz2 j
      grind
    intro x mx
    rcases List.mem_append.mp mx with m | m
    · exact h7 x m
    · exact List.mem_singleton.mp m
theorem ind_one {A : List (List Rat)} (h : Ind A) {cs ds : List Rat} (h1 : cs.length = A.length) (h2 : ds.length = A.length) (e : ∀ j, cmb cs A j = cmb ds A j) : cs = ds := by
  have hz := h (List.zipWith (fun c d => c + -1 * d) cs ds) (by simp [h1, h2]) fun j => by
    rw [cmb_add (by omega), e]
    grind
  refine List.ext_getElem? fun i => ?_
  by_cases hi : i < cs.length
  · have hi2 : i < ds.length := by omega
    have := hz (cs[i] + -1 * ds[i]) (by
      refine List.mem_of_getElem? (i := i) ?_
      rw [List.getElem?_zipWith, List.getElem?_eq_getElem hi, List.getElem?_eq_getElem hi2])
    rw [List.getElem?_eq_getElem hi, List.getElem?_eq_getElem hi2]
    congr 1
    grind
  · rw [List.getElem?_eq_none (by omega), List.getElem?_eq_none (by omega)]
/-! the marked rows -/
def mkR (m i : Nat) : List Rat := (List.range m).map fun j => if i = j then 1 else 0
def mrk (A : List (List Rat)) : List (List Rat) := (List.range A.length).map fun i => A.getD i [] ++ mkR A.length i
theorem vc_app {r s : List Rat} (j : Nat) : vc (r ++ s) j = if j < r.length then vc r j else vc s (j - r.length) := by
  unfold vc
  rw [List.getD_eq_getElem?_getD, List.getD_eq_getElem?_getD, List.getD_eq_getElem?_getD]
  split
  · rw [List.getElem?_append_left (by assumption)]
  · rw [List.getElem?_append_right (by omega)]
theorem mkR_vc {m i j : Nat} : vc (mkR m i) j = if j < m ∧ i = j then 1 else 0 := by
  by_cases hj : j < m
  · rw [vc_get (by simpa [mkR] using hj)]
    simp [mkR, hj]
  · rw [vc_of (by simp [mkR]; omega), if_neg (by omega)]
/-- the sums of the marked rows -/
theorem cmb_mrk {w : Nat} {A : List (List Rat)} (hl : ∀ a ∈ A, a.length = w) : ∀ {cs : List Rat}, cs.length = A.length → ∀ j, cmb cs (mrk A) j = if j < w then cmb cs A j else vc cs (j - w) := by
  -- over a shifted range of marks
  have key : ∀ (B : List (List Rat)) (cs : List Rat) (m s : Nat), (∀ a ∈ B, a.length = w) → cs.length = B.length → s + B.length ≤ m → ∀ j, cmb cs ((List.range B.length).map fun i => B.getD i [] ++ mkR m (s + i)) j = if j < w then cmb cs B j else if s ≤ j - w then vc cs (j - w - s) else 0 := fun B => by
    induction B with
    | nil =>
      intro cs m s _ hc _ j
      have : cs = [] := List.eq_nil_of_length_eq_zero (by simpa using hc)
      subst this
      split
      · rfl
      · split
        · rw [vc_of (by simp)]; rfl
        · rfl
    | cons b B ih =>
      intro cs m s hB hc hm j
      cases cs with
      | nil => simp at hc
      | cons c cs =>
        have hb := hB b (by simp)
        rw [List.length_cons, List.range_succ_eq_map, List.map_cons, List.map_map]
        show c * vc (b ++ mkR m (s + 0)) j + cmb cs _ j = _
        have e : ((fun i => (b :: B).getD i [] ++ mkR m (s + i)) ∘ Nat.succ) = fun i => B.getD i [] ++ mkR m (s + 1 + i) := by
          funext i
          show (b :: B).getD (i + 1) [] ++ mkR m (s + (i + 1)) = _
          rw [List.getD_cons_succ, show s + (i + 1) = s + 1 + i by omega]
        rw [e, ih cs m (s + 1) (fun a ma => hB a (by simp [ma])) (by simpa using hc) (by rw [List.length_cons] at hm; omega), vc_app, hb]
        by_cases hj : j < w
        · rw [if_pos hj, if_pos hj, if_pos hj]
          rfl
        · rw [if_neg hj, if_neg hj, if_neg hj, mkR_vc]
          rw [List.length_cons] at hm
          by_cases q : s = j - w
          · rw [if_pos ⟨by omega, by omega⟩, if_neg (by omega), if_pos (by omega), show j - w - s = 0 by omega]
            show c * 1 + 0 = c
            grind
          · rw [if_neg (by omega)]
            by_cases q2 : s ≤ j - w
            · rw [if_pos (by omega), if_pos q2, show j - w - s = (j - w - (s + 1)) + 1 by omega]
              show c * 0 + vc cs _ = vc cs _
              grind
            · rw [if_neg (by omega), if_neg q2]
              grind
  intro cs hc j
  have := key A cs A.length 0 hl hc (by omega) j
  unfold mrk
  simp only [Nat.zero_add] at this
  rw [this]
  simp
theorem mrk_len {w : Nat} {A : List (List Rat)} (hl : ∀ a ∈ A, a.length = w) : (mrk A).length = A.length ∧ ∀ r ∈ mrk A, r.length = w + A.length := by
  refine ⟨by simp [mrk], fun r m => ?_⟩
  obtain ⟨i, hi, rfl⟩ := List.mem_map.mp m
  have hi := List.mem_range.mp hi
  rw [List.length_append, List.getD_eq_getElem?_getD, List.getElem?_eq_getElem hi]
  show A[i].length + _ = _
  rw [hl _ (List.getElem_mem hi)]
  simp [mkR]
/-- what is left of the wanted row -/
def leftR (A : List (List Rat)) (b : List Rat) : List Rat := restR (spanR (mrk A)) (b ++ List.replicate A.length 0)
theorem zr_vc (m j : Nat) : vc (List.replicate m 0) j = 0 := by
  unfold vc
  rw [List.getD_eq_getElem?_getD, List.getElem?_replicate]
  split <;> rfl
theorem left_facts {w : Nat} {A : List (List Rat)} {b : List Rat} (hl : ∀ a ∈ A, a.length = w) (hb : b.length = w) : (leftR A b).length = w + A.length ∧ ∃ cs : List Rat, cs.length = A.length ∧ (leftR A b).drop w = cs.map (fun c => -c) ∧ (∀ j, j < w → vc (leftR A b) j = vc b j - cmb cs A j) := by
  obtain ⟨m1, m2⟩ := mrk_len hl
  obtain ⟨s1, s2⟩ := span_rf m2
  have hbl : (b ++ List.replicate A.length (0 : Rat)).length = w + A.length := by simp [hb]
  have hlen : (leftR A b).length = w + A.length := restR_len s1.len hbl
  obtain ⟨cs, c1, c2⟩ := sp_cmb ((s2 _).mp (pj_sp (spanR (mrk A)) (vc (b ++ List.replicate A.length 0)) fun _ m => m))
  rw [m1] at c1
  have hv : ∀ j, vc (leftR A b) j = vc (b ++ List.replicate A.length 0) j - cmb cs (mrk A) j := fun j => by
    unfold leftR
    rw [restR_vc s1 hbl, c2]
  refine ⟨hlen, cs, c1, ?_, fun j hj => ?_⟩
  · refine vc_ext (by rw [List.length_drop, List.length_map, hlen, c1]; omega) fun j => ?_
    have e1 : vc ((leftR A b).drop w) j = vc (leftR A b) (w + j) := by
      unfold vc
      rw [List.getD_eq_getElem?_getD, List.getD_eq_getElem?_getD, List.getElem?_drop]
    have e2 : vc (cs.map fun c => -c) j = -vc cs j := by
      by_cases hj : j < cs.length
      · rw [vc_get (by simpa using hj), vc_get hj, List.getElem_map]
      · rw [vc_of (by simp; omega), vc_of (by omega)]
        grind
    rw [e1, e2, hv, vc_app, hb, if_neg (by omega), zr_vc, cmb_mrk hl c1, if_neg (by omega), show w + j - w = j by omega]
    grind
  · rw [hv, vc_app, hb, if_pos hj, cmb_mrk hl c1, if_pos hj]
/-- if there are numbers, nothing is left ahead of the marks -/
theorem left_in {w : Nat} {A : List (List Rat)} {b : List Rat} (hl : ∀ a ∈ A, a.length = w) (hb : b.length = w) (h : Sp A (vc b)) : w ≤ ld (leftR A b) := by
  obtain ⟨m1, m2⟩ := mrk_len hl
  obtain ⟨s1, s2⟩ := span_rf m2
  have hbl : (b ++ List.replicate A.length (0 : Rat)).length = w + A.length := by simp [hb]
  obtain ⟨ds, d1, d2⟩ := sp_cmb h
  obtain ⟨l1, cs, c1, c2, c3⟩ := left_facts hl hb
  by_cases q : w ≤ ld (leftR A b)
  · exact q
  · exfalso
    have hlt : ld (leftR A b) < w := by omega
    have hne : vc (leftR A b) (ld (leftR A b)) ≠ 0 := ld_ne (by omega)
    have hs : Sp (spanR (mrk A)) (cmb (List.zipWith (fun c d => c + -1 * d) ds cs) (mrk A)) := (s2 _).mpr (cmb_sp fun _ m => m)
    have hv : ∀ j, j < w → cmb (List.zipWith (fun c d => c + -1 * d) ds cs) (mrk A) j = vc (leftR A b) j := fun j hj => by
      rw [cmb_add (by omega), cmb_mrk hl d1, cmb_mrk hl c1, if_pos hj, if_pos hj, c3 j hj, ← d2]
      grind
    obtain ⟨k, mk, hk⟩ := sp_lead s1 hs (p := ld (leftR A b)) (fun j hj => by rw [hv j (by omega), ld_low hj]) (by rw [hv _ hlt]; exact hne)
    apply hne
    rw [← hk]
    exact restR_at s1 hbl k mk
/-- otherwise something is -/
theorem left_out {w : Nat} {A : List (List Rat)} {b : List Rat} (hl : ∀ a ∈ A, a.length = w) (hb : b.length = w) (h : w ≤ ld (leftR A b)) : Sp A (vc b) := by
  obtain ⟨l1, cs, c1, c2, c3⟩ := left_facts hl hb
  have e : vc b = cmb cs A := by
    funext j
    by_cases hj : j < w
    · have := c3 j hj
      rw [ld_low (by omega)] at this
      grind
    · rw [vc_of (by omega)]
      have : ∀ (B : List (List Rat)) (ds : List Rat), (∀ a ∈ B, a.length = w) → cmb ds B j = 0 := fun B => by
        induction B with
        | nil => intro ds _; cases ds <;> rfl
        | cons a B ih =>
          intro ds hB
          cases ds with
          | nil => rfl
          | cons d ds =>
            show d * vc a j + cmb ds B j = 0
            rw [ih ds fun x m => hB x (by simp [m]), vc_of (by rw [hB a (by simp)]; omega)]
            grind
      exact (this A cs hl).symm
  rw [e]
  exact cmb_sp fun _ m => m
/-- the numbers -/
theorem left_nums {w : Nat} {A : List (List Rat)} {b ds : List Rat} (hl : ∀ a ∈ A, a.length = w) (hb : b.length = w) (hi : Ind A) (hd : ds.length = A.length) (h : ∀ j, vc b j = cmb ds A j) : w ≤ ld (leftR A b) ∧ ((leftR A b).drop w).map (fun c => -c) = ds := by
  have hs : Sp A (vc b) := by
    rw [show vc b = cmb ds A from funext h]
    exact cmb_sp fun _ m => m
  have hw := left_in hl hb hs
  obtain ⟨l1, cs, c1, c2, c3⟩ := left_facts hl hb
  refine ⟨hw, ?_⟩
  have out : ∀ (B : List (List Rat)) (es : List Rat) (j : Nat), w ≤ j → (∀ a ∈ B, a.length = w) → cmb es B j = 0 := fun B => by
    induction B with
    | nil => intro es _ _ _; cases es <;> rfl
    | cons a B ih =>
      intro es j hj hB
      cases es with
      | nil => rfl
      | cons d es =>
        show d * vc a j + cmb es B j = 0
        rw [ih es j hj fun x m => hB x (by simp [m]), vc_of (by rw [hB a (by simp)]; omega)]
        grind
  have e : cs = ds := ind_one hi c1 hd fun j => by
    by_cases hj : j < w
    · have := c3 j hj
      rw [ld_low (by omega), h] at this
      grind
    · rw [out A cs j (by omega) hl, out A ds j (by omega) hl]
  rw [c2, List.map_map, ← e]
  refine (List.map_congr_left fun c _ => ?_).trans (List.map_id _)
  show - -c = c
  grind
end Lw

namespace Lw
open PySem PySem.Spec PyProof.Rows L2 Py
/-! solve: the walk -/
theorem rz_append {kr vr w m : Nat} {r s : List Rat} (h : Rz kr vr r) (hs : ∀ q ∈ s, q = 0 ∨ q = 1) : Rz kr vr (r ++ s) := by
  obtain ⟨d, d0, d1, d2⟩ := h
  refine ⟨d, d0, d1, fun q m => ?_⟩
  rcases List.mem_append.mp m with m | m
  · exact d2 q m
  · rcases hs q m with rfl | rfl
    · exact Fr.zero
    · refine ⟨(d : Int), by rw [Rat.one_mul, Rat.intCast_natCast], ?_⟩
      have := Nat.two_pow_pos vr
      exact Nat.le_mul_of_pos_left _ this
theorem mkR_01 {m i : Nat} : ∀ q ∈ mkR m i, q = 0 ∨ q = 1 := fun q h => by
  obtain ⟨j, _, rfl⟩ := List.mem_map.mp h
  split
  · exact .inr rfl
  · exact .inl rfl
theorem tupR_sum (r s : List Rat) : D.tup (r.map RQ ++ s.map RQ) = TR (r ++ s) := by
  unfold TR
  rw [List.map_append]
theorem cutL_drop {α : Type} (xs : List α) (k : Nat) : cutL xs (some (k : Int)) none = xs.drop k := by
  unfold cutL
  rw [HT.sIx_none, HT.sIx_nat]
  rw [List.take_of_length_le (by simp)]
  by_cases h : k ≤ xs.length
  · rw [Nat.min_eq_left h]
  · rw [Nat.min_eq_right (by omega), List.drop_of_length_le (Nat.le_refl _), List.drop_of_length_le (by omega)]
def solveD (A : List (List Rat)) (b : List Rat) : D := if ld (leftR A b) < b.length then .non else TR (((leftR A b).drop b.length).map fun c => -c)
theorem solve_ok {n w kr vr kb vb c N : Nat} {x y : D} {A : List (List Rat)} {b : List Rat} {S : Sto} {Q : W → Sto → Prop} (hn : 12 ≤ n) (hx : x = TT A ∨ x = .lst (A.map TR)) (hy : y = TR b ∨ y = .lst (b.map RQ)) (hl : ∀ a ∈ A, a.length = w) (hb : b.length = w) (hw : w ≤ 1000) (hm : A.length ≤ 1000) (hz : ∀ a ∈ A, Rz kr vr a) (hbz : Rz kb vb b)
    (hN : A.length ≤ N) (hc : N + 1 ≤ 2 ^ c) (hB : 12 * uB (kr + vr + c) N + 4 * (kr + vr + c) + 8 * (kb + vb + c) + 10 ≤ 60000000) (hQ : Q (.d (solveD A b)) S) : (FT n i_solve [.d x, .d y] S).sat Q := by
  obtain ⟨n, rfl⟩ : ∃ k, n = k + 1 := ⟨n - 1, by omega⟩
  have zA : A.length ≤ sizeLine := Nat.le_trans hm (by decide)
  have zA2 : A.length ≤ 16777216 := by omega
  have zw : w ≤ sizeLine := Nat.le_trans hw (by decide)
  have hsm : smallI (A.length : Int) = true := smallI_of (by omega) (by omega)
  obtain ⟨m1, m2⟩ := mrk_len hl
  obtain ⟨s1, s2⟩ := span_rf m2
  have mz : ∀ r ∈ mrk A, Rz kr vr r := fun r m => by
    obtain ⟨i, hi, rfl⟩ := List.mem_map.mp m
    have hi := List.mem_range.mp hi
    refine rz_append (w := w) (m := w) ?_ mkR_01
    rw [List.getD_eq_getElem?_getD, List.getElem?_eq_getElem hi]
    exact hz _ (List.getElem_mem hi)
  have hway := way_fr (w := w + A.length) (t := mrk A) (c := c) (N := N) m2 mz (.inr (by rw [m1]; exact hN)) hc
  have hspz := span_z (w := w + A.length) (t := mrk A) (c := c) (N := N) m2 mz (.inr (by rw [m1]; exact hN)) hc
  have hKl : (spanR (mrk A)).length ≤ N := by
    have := spanR_len (mrk A)
    omega
  have hbl : (b ++ List.replicate A.length (0 : Rat)).length = w + A.length := by simp [hb]
  have hbz2 : Rz kb vb (b ++ List.replicate A.length (0 : Rat)) := rz_append (w := w) (m := w) hbz fun q m => .inl (List.mem_replicate.mp m).2
  have u1 : 1 ≤ uB (kr + vr + c) N := uB_mono _ (Nat.zero_le N)
  obtain ⟨g1, _⟩ := grow_fr s1 hbl hspz hbz2 (c := c) (by omega) u1
  obtain ⟨l1, cs, c1, c2, c3⟩ := left_facts hl hb
  have lz := rz_sz (g1 (spanR (mrk A)).length)
  rw [List.take_length] at lz
  rw [FT_solve]
  with_reducible refine run_sat (by simp) ?_
  unfold c_solve
  with_reducible refine rs_cut (fun e S1 => S1 = S ∧ e = [some (.d x), some (.d y), some (.d (.int (A.length : Nat))), none, none, none, none, none, none, none, none]) ?_ ?_
  · rcases hx with rfl | rfl <;> simp! [List.length_map, zA]
  intro e S1 hh
  obtain ⟨hS, hE⟩ := hh
  subst hS hE
  simp_all!
  refine unit_ok (w := A.length) (by omega) rfl (by omega) ?_
  simp!
  have um : ∀ i, i < A.length → atI (((unitR A.length).map TR).map W.d) (i : Int) = some (.d (TR (mkR A.length i))) := fun i hi => by
    refine atI_nat ?_
    rw [List.getElem?_map, List.getElem?_map]
    unfold unitR
    rw [List.getElem?_map, List.getElem?_range hi]
    rfl
  have comp : ∀ (xs : List (List Rat)) (Q2 : List W → Sto → Prop) (gd : Sto → Prop) (e0 : Py.Env), gd S1 → e0 = [some (.d x), some (.d y), some (.d (.int (A.length : Nat))), some (.d (TT (unitR A.length))), none, none, none, none, none, none, none] → Q2 (((mrk A).map TR).map W.d) S1 →
      (compL (gTp (gCons (gNm 7) (gCons (gNm 8) gNil))) tYesD (dOp (opO (FT n) 0 i_Ratio___add__ opAdd) (dB gTuple (dCons (dVar 8) dNil)) (dOp opIx (dVar 3) (dVar 7))) gd e0 (enumP (A.map TR)) S1).sat Q2 := by
    intro xs Q2 gd e0 hgd he hq
    subst he
    refine comp_sat (fun j ys S2 => S2 = S1 ∧ ys = (((mrk A).take j).map TR).map W.d) ⟨rfl, rfl⟩ ?_ ?_
    · rintro j z ys S2 hz2 ⟨rfl, rfl⟩
      obtain ⟨d, hd, rfl⟩ := enumP_get hz2
      obtain ⟨a, ha, rfl⟩ : ∃ a, A[j]? = some a ∧ d = TR a := by
        rw [List.getElem?_map] at hd
        cases q : A[j]? with
        | none => rw [q] at hd; cases hd
        | some a => rw [q] at hd; cases hd; exact ⟨a, rfl, rfl⟩
      have hj := (List.getElem?_eq_some_iff.mp ha).1
      have hal := hl a (List.mem_of_getElem? ha)
      have zs : w + A.length ≤ sizeLine := Nat.le_trans (show w + A.length ≤ 2000 by omega) (by decide)
      have em : (mrk A)[j]? = some (a ++ mkR A.length j) := by
        unfold mrk
        rw [List.getElem?_map, List.getElem?_range hj]
        show some (A.getD j [] ++ _) = _
        rw [List.getD_eq_getElem?_getD, ha]
        rfl
      have zs2 : a.length + (mkR A.length j).length ≤ sizeLine := by
        rw [hal, show (mkR A.length j).length = A.length by simp [mkR]]
        exact zs
      refine ⟨hgd, _, rfl, ?_⟩
      simp! [um j hj, List.length_map, zs2]
      rw [tupR_sum, List.take_add_one, em]
      simp
    · rintro ys S2 ⟨rfl, rfl⟩
      rw [enumP_len, List.length_map, ← m1, List.take_length]
      exact ⟨hgd, hq⟩
  have zM : (mrk A).length ≤ 16777216 := by omega
  with_reducible refine rs_cut (fun e S2 => S2 = S1 ∧ ∃ x0 x3 x7 x8 x9 x10, e = [x0, some (.d y), some (.d (.int (A.length : Nat))), x3, some (.d (.obj 1/-S-/ [TT (spanR (mrk A))])), none, none, x7, x8, x9, x10]) ?_ ?_
  · rcases hx with rfl | rfl
    · simp!
      refine comp [] _ _ _ trivial rfl ?_
      simp! [plainL_map, List.length_map, zM]
      refine space_ok (t := mrk A) (by omega) (.inr rfl) m2 (by omega) (by omega) hway (by omega) ?_
      simp!
      exact ⟨_, _, _, _, _, _, rfl⟩
    · simp!
      refine comp [] _ _ _ trivial rfl ?_
      simp! [plainL_map, List.length_map, zM]
      refine space_ok (t := mrk A) (by omega) (.inr rfl) m2 (by omega) (by omega) hway (by omega) ?_
      simp!
      exact ⟨_, _, _, _, _, _, rfl⟩
  intro e S2 hh
  obtain ⟨hS, x0, x3, x7, x8, x9, x10, hE⟩ := hh
  subst hS hE
  have zs3 : w + A.length ≤ sizeLine := Nat.le_trans (show w + A.length ≤ 2000 by omega) (by decide)
  have zs4 : b.length + (List.replicate A.length (0 : Rat)).length ≤ sizeLine := by rw [hb, List.length_replicate]; exact zs3
  with_reducible refine rs_cut (fun e S3 => S3 = S2 ∧ ∃ x0 x2 x3 x4 x7 x8 x9 x10, e = [x0, some (.d y), x2, x3, x4, some (.d (TR (leftR A b))), none, x7, x8, x9, x10]) ?_ ?_
  · have fin : ∀ (Q2 : W → Sto → Prop), Q2 (.d (TR (leftR A b))) S2 → (FT n i_Space_rest [.d (.obj 1/-S-/ [TT (spanR (mrk A))]), .d (TR (b ++ List.replicate A.length 0))] S2).sat Q2 := fun Q2 hq =>
      rest_ok (by omega) (.inl rfl) s1 hbl (by omega) hspz g1 (by omega) hq
    have zeros : ∀ (e0 : Py.Env) (gd : Sto → Prop) (Q2 : List W → Sto → Prop), gd S2 → Q2 (((List.replicate A.length (0 : Rat)).map RQ).map W.d) S2 →
        (compL (gNm 10) tYesD (dMk (mkF (FI n) 0 i_Ratio___init__ 3 2) [.int 1] (dCons (dC (.int 0)) dNil)) gd e0 (rng 0 (A.length : Int)) S2).sat Q2 := fun e0 gd Q2 hgd hq => by
      refine comp_each (l := List.range A.length) (mk := fun j => W.d (.int (j : Nat))) (f := fun _ => RQ 0) (rng_map A.length) ?_ hgd ?_
      · intro j hj
        refine ⟨_, rfl, ?_⟩
        simp!
        refine mk_ok (k := 1) (by omega) (by decide) (by decide) (by decide) (by decide) ?_
        exact ⟨rfl, rfl⟩
      · rw [List.map_const', List.length_range]
        rw [List.map_replicate] at hq
        exact hq
    have zr : (List.replicate A.length (0 : Rat)).length ≤ 16777216 := by rw [List.length_replicate]; omega
    have zr2 : (List.replicate A.length (0 : Rat)).length ≤ sizeLine := by rw [List.length_replicate]; exact zA
    rcases hy with rfl | rfl
    · simp! [hsm]
      refine zeros _ _ _ trivial ?_
      simp! [plainL_map, List.length_map, zr, zs4, tupR_sum]
      refine fin _ ?_
      simp!
      exact ⟨_, _, _, _, _, _, _, _, rfl⟩
    · simp! [hsm]
      refine zeros _ _ _ trivial ?_
      simp! [plainL_map, List.length_map, zr, zs4, tupR_sum]
      refine fin _ ?_
      simp!
      exact ⟨_, _, _, _, _, _, _, _, rfl⟩
  intro e S3 hh
  obtain ⟨hS, x0, x2, x3, x4, x7, x8, x9, x10, hE⟩ := hh
  subst hS hE
  have zb : b.length ≤ sizeLine := by rw [hb]; exact zw
  with_reducible refine rs_cut (fun e S4 => S4 = S3 ∧ ∃ x0 x1 x2 x3 x4 x7 x8 x9 x10, e = [x0, x1, x2, x3, x4, some (.d (TR (leftR A b))), some (.d (.int (w : Nat))), x7, x8, x9, x10]) ?_ ?_
  · rcases hy with rfl | rfl
    · simp! [List.length_map, zb]
      rw [hb]
      exact ⟨_, _, _, _, _, _, _, _, _, rfl⟩
    · simp! [List.length_map, zb]
      rw [hb]
      exact ⟨_, _, _, _, _, _, _, _, _, rfl⟩
  intro e S4 hh
  obtain ⟨hS, y0, y1, y2, y3, y4, y7, y8, y9, y10, hE⟩ := hh
  subst hS hE
  unfold solveD at hQ
  rw [hb] at hQ
  with_reducible refine rs_cut (fun e S5 => S5 = S4 ∧ w ≤ ld (leftR A b) ∧ ∃ x0 x1 x2 x3 x4 x7 x8 x9 x10, e = [x0, x1, x2, x3, x4, some (.d (TR (leftR A b))), some (.d (.int (w : Nat))), x7, x8, x9, x10]) ?_ ?_
  · simp!
    refine leading_ok (by omega) (by omega) ?_
    simp!
    refine br_of (fun h1 => ?_) (fun h1 => ?_)
    · rw [if_pos (by omega)] at hQ
      simp!
      rw [List.take_length]
      exact hQ
    · simp!
      exact ⟨by omega, _, _, _, _, _, _, _, _, _, rfl⟩
  intro e S5 hh
  obtain ⟨hS, hle, z0, z1, z2, z3, z4, z7, z8, z9, z10, hE⟩ := hh
  subst hS hE
  rw [if_neg (by omega)] at hQ
  have zd : ((leftR A b).drop w).length ≤ 16777216 := by rw [List.length_drop, l1]; omega
  have hcut : cutL ((leftR A b).map RQ) (some (w : Int)) none = ((leftR A b).drop w).map RQ := by
    rw [cutL_drop, List.map_drop]
  simp! [hcut]
  refine comp_each (l := (leftR A b).drop w) (mk := fun q => W.d (RQ q)) (f := fun q => RQ (-q)) (by rw [List.map_map]; rfl) ?_ trivial ?_
  · intro q m
    refine ⟨_, rfl, ?_⟩
    simp!
    refine neg_ok (k := uB (kr + vr + c) N + kb + (uB (kr + vr + c) N + vb + c)) (by omega) (lz q (List.mem_of_mem_drop m)) (by omega) ?_
    exact ⟨rfl, rfl⟩
  · have e : ((leftR A b).drop w).map (fun q => RQ (-q)) = (((leftR A b).drop w).map fun c => -c).map RQ := by
      rw [List.map_map]
      rfl
    simp! [plainL_map, zd, List.length_map]
    rw [List.take_length, e]
    exact hQ
end Lw

namespace Lw
open PySem PySem.Spec PyProof.Rows L2 Py
/-! k05: the law's own elimination -/
theorem tq_at0 {q : Rat} {S : Sto} : opIx (.d (TQ q)) (.d (.int 0)) S = .ok (.d (.int q.num)) S := rfl
theorem tq_at1 {q : Rat} {S : Sto} : opIx (.d (TQ q)) (.d (.int 1)) S = .ok (.d (.int q.den)) S := rfl
theorem lessR_eq {r s : List Rat} {c : Rat} (h : r.length = s.length) : lessR r c s = (List.range r.length).map fun k => vc r k + -c * vc s k := by
  refine vc_ext (by rw [lessR_len rfl h.symm]; simp) fun j => ?_
  rw [lessR_vc rfl h.symm]
  by_cases hj : j < r.length
  · rw [vc_get (r := (List.range r.length).map _) (by simpa using hj)]
    simp
    grind
  · rw [vc_of (by omega), vc_of (r := s) (by omega), vc_of (r := (List.range r.length).map _) (by simp; omega)]
    grind
theorem atI_vcq {r : List Rat} {j : Nat} (h : j < r.length) : atI ((r.map TQ).map W.d) (j : Int) = some (.d (TQ (vc r j))) := by
  refine atI_nat ?_
  rw [List.getElem?_map, List.getElem?_map, vc_get? h]
  rfl
theorem atI_rows {t : List (List Rat)} {j : Nat} {r : List Rat} (h : t[j]? = some r) : atI ((t.map LR).map W.d) (j : Int) = some (.d (LR r)) := by
  refine atI_nat ?_
  rw [List.getElem?_map, List.getElem?_map, h]
  rfl
def uA (u0 : Nat) : Nat → Nat
  | 0 => u0
  | n + 1 => 3 * uA u0 n + 1
theorem uA_mono (u0 : Nat) : ∀ {m n : Nat}, m ≤ n → uA u0 m ≤ uA u0 n := fun {m n} h => by
  induction n with
  | zero =>
    have : m = 0 := by omega
    rw [this]
    exact Nat.le_refl _
  | succ n ih =>
    by_cases q : m = n + 1
    · rw [q]
      exact Nat.le_refl _
    · have := ih (by omega)
      show _ ≤ 3 * uA u0 n + 1
      omega
theorem scale_rz {u p : Nat} {x : List Rat} (hx : Rz u u x) (hp : vc x p ≠ 0) : Rz (2 * u) (2 * u) (scaleR x (vc x p)⁻¹) := by
  obtain ⟨d, d0, d1, d2⟩ := hx
  obtain ⟨z, z0, z1, z2⟩ := scale_fr d0 d2 hp
  have : 2 ^ u * d < 2 ^ (2 * u) := by
    rw [Nat.two_mul, Nat.pow_add]
    exact Nat.mul_lt_mul_of_pos_left d1 (Nat.two_pow_pos u)
  exact ⟨z, z0, by omega, fun q m => (z2 q m).mono (by omega)⟩
theorem less_rz {u w p : Nat} {k y : List Rat} (hk : k.length = w) (hy : y.length = w) (h1 : Rz u u k) (h2 : Rz (2 * u) (2 * u) y) : Rz (3 * u + 1) (3 * u + 1) (lessR k (vc k p) y) := by
  obtain ⟨d, d0, d1, d2⟩ := h1
  obtain ⟨e, e0, e1, e2⟩ := h2
  have h3 := lessR_fr (e := d) (d := e) hk hy (fun q mq => (d2 q mq).up e) (fr_vc d2 p) e2
  refine ⟨d * e, Nat.mul_pos d0 e0, ?_, fun q m => (h3 q m).mono ?_⟩
  · have : d * e < 2 ^ u * 2 ^ (2 * u) := Nat.mul_lt_mul'' d1 e1
    rw [← Nat.pow_add] at this
    exact Nat.lt_of_lt_of_le this (Nat.pow_le_pow_right (by decide) (by omega))
  · rw [← Nat.pow_add]
    have a1 : 2 ^ u ≤ 2 ^ (u + 2 * u) := Nat.pow_le_pow_right (by decide) (by omega)
    have a2 : 2 ^ (u + 2 * u) * 2 = 2 ^ (3 * u + 1) := by
      rw [← Nat.pow_succ]
      congr 1
      omega
    omega
/-- rows cleared at a place by the row that stands at a -/
def clearR (L : List (List Rat)) (p a : Nat) (y : List Rat) : List (List Rat) := ((List.range L.length).filter fun k => decide (k ≠ a)).map fun k => lessR (L.getD k []) (vc (L.getD k []) p) y
/-- the state of the elimination ahead of column p -/
structure El (w p u0 : Nat) (t K L : List (List Rat)) : Prop where
  rf : Rf w K
  ldp : ∀ k ∈ K, ld k < p
  len : ∀ r ∈ L, r.length = w
  low : ∀ r ∈ L, ∀ j, j < p → vc r j = 0
  sp : ∀ v, Sp (K ++ L) v ↔ Sp t v
  many : K.length + L.length = t.length
  kz : ∀ k ∈ K, Rz (uA u0 K.length) (uA u0 K.length) k
  lz : ∀ k ∈ L, Rz (uA u0 K.length) (uA u0 K.length) k
theorem El.skip {w p u0 : Nat} {t K L : List (List Rat)} (h : El w p u0 t K L) (h0 : ∀ r ∈ L, vc r p = 0) : El w (p + 1) u0 t K L :=
  ⟨h.rf, fun k m => by have := h.ldp k m; omega, h.len, fun r m j hj => by
    by_cases q : j = p
    · rw [q]
      exact h0 r m
    · exact h.low r m j (by omega), h.sp, h.many, h.kz, h.lz⟩
theorem clear_mem {L : List (List Rat)} {p a : Nat} {y x : List Rat} (h : x ∈ clearR L p a y) : ∃ k r, k ≠ a ∧ L[k]? = some r ∧ x = lessR r (vc r p) y := by
  obtain ⟨k, mk, rfl⟩ := List.mem_map.mp h
  rw [List.mem_filter] at mk
  have hk := List.mem_range.mp mk.1
  refine ⟨k, L[k], by simpa using mk.2, List.getElem?_eq_getElem hk, ?_⟩
  rw [List.getD_eq_getElem?_getD, List.getElem?_eq_getElem hk]
  rfl
theorem clear_in {L : List (List Rat)} {p a k : Nat} {y r : List Rat} (hk : k ≠ a) (h : L[k]? = some r) : lessR r (vc r p) y ∈ clearR L p a y := by
  have hkl := (List.getElem?_eq_some_iff.mp h).1
  refine List.mem_map.mpr ⟨k, List.mem_filter.mpr ⟨List.mem_range.mpr hkl, by simpa using hk⟩, ?_⟩
  rw [List.getD_eq_getElem?_getD, h]
  rfl
theorem filter_ne_len (n a : Nat) (h : a < n) : ((List.range n).filter fun k => decide (k ≠ a)).length = n - 1 := by
  have h1 : ∀ m, ((List.range m).filter fun k => decide (k ≠ a)).length = if a < m then m - 1 else m := fun m => by
    induction m with
    | zero => rfl
    | succ m ih =>
      rw [List.range_succ, List.filter_append, List.length_append, ih]
      by_cases q : m = a
      · subst q
        simp
      · have : (decide (m ≠ a)) = true := by simpa using q
        rw [List.filter_cons, this]
        simp only [if_true, List.filter_nil, List.length_singleton]
        split <;> split <;> omega
  rw [h1, if_pos h]
theorem El.step {w p u0 a : Nat} {t K L : List (List Rat)} {x : List Rat} (h : El w p u0 t K L) (hp : p < w) (ha : L[a]? = some x) (hx : vc x p ≠ 0) :
    El w (p + 1) u0 t (K.map (fun k => lessR k (vc k p) (scaleR x (vc x p)⁻¹)) ++ [scaleR x (vc x p)⁻¹]) (clearR L p a (scaleR x (vc x p)⁻¹)) := by
  have mx := List.mem_of_getElem? ha
  have hal := (List.getElem?_eq_some_iff.mp ha).1
  have xl := h.len x mx
  have yv : ∀ j, vc (scaleR x (vc x p)⁻¹) j = vc x j * (vc x p)⁻¹ := scaleR_vc x _
  have yl : (scaleR x (vc x p)⁻¹).length = w := by unfold scaleR; rw [List.length_map, xl]
  have y1 : vc (scaleR x (vc x p)⁻¹) p = 1 := by rw [yv, Rat.mul_inv_cancel _ hx]
  have y0 : ∀ j, j < p → vc (scaleR x (vc x p)⁻¹) j = 0 := fun j hj => by rw [yv, h.low x mx j hj, Rat.zero_mul]
  have yld : ld (scaleR x (vc x p)⁻¹) = p := ld_eq y0 (by rw [y1]; decide)
  have yr := scale_rz (h.lz x mx) hx
  have hyx : vc x = fun j => vc x p * vc (scaleR x (vc x p)⁻¹) j := by
    funext j
    rw [yv]
    have : vc x p * (vc x p)⁻¹ = 1 := Rat.mul_inv_cancel _ hx
    grind
  generalize scaleR x (vc x p)⁻¹ = y at yv yl y1 y0 yld yr hyx ⊢
  have key := uf_step h.rf.uf yl yld hp y1 fun k m => y0 _ (h.ldp k m)
  have hKl : (K.map (fun k => lessR k (vc k p) y) ++ [y]).length = K.length + 1 := by simp
  have lv : ∀ r : List Rat, r.length = w → ∀ j, vc (lessR r (vc r p) y) j = vc r j - vc r p * vc y j := fun r hr j => lessR_vc hr yl j
  refine ⟨key.1.rf ?_, fun k m => ?_, fun r m => ?_, fun r m j hj => ?_, fun v => ?_, ?_, fun k m => ?_, fun k m => ?_⟩
  · rw [List.pairwise_append]
    refine ⟨?_, List.pairwise_singleton _ _, fun b mb c mc => ?_⟩
    · rw [List.pairwise_map]
      refine List.Pairwise.imp_of_mem ?_ h.rf.srt
      intro b c mb mc hbc
      rw [key.2 b mb, key.2 c mc]
      omega
    · obtain ⟨k, mk, rfl⟩ := List.mem_map.mp mb
      rw [List.mem_singleton.mp mc, key.2 k mk, yld]
      have := h.ldp k mk
      omega
  · rcases List.mem_append.mp m with m | m
    · obtain ⟨k', mk, rfl⟩ := List.mem_map.mp m
      rw [key.2 k' mk]
      have := h.ldp k' mk
      omega
    · rw [List.mem_singleton.mp m, yld]
      omega
  · obtain ⟨k, r', _, hr, rfl⟩ := clear_mem m
    exact lessR_len (h.len r' (List.mem_of_getElem? hr)) yl
  · obtain ⟨k, r', _, hr, rfl⟩ := clear_mem m
    have mr := List.mem_of_getElem? hr
    rw [lv r' (h.len r' mr)]
    by_cases q : j = p
    · rw [q, y1]
      grind
    · rw [h.low r' mr j (by omega), y0 j (by omega)]
      grind
  · rw [← h.sp v]
    constructor
    · refine fun s => s.mono fun b mb => ?_
      have hy : Sp (K ++ L) (vc y) := by
        have := (Sp.mem (R := K ++ L) (r := x) (by simp [mx])).scal (vc x p)⁻¹
        have e : (fun j => (vc x p)⁻¹ * vc x j) = vc y := by
          funext j
          rw [yv]
          grind
        rwa [e] at this
      rcases List.mem_append.mp mb with mb | mb
      · rcases List.mem_append.mp mb with mb | mb
        · obtain ⟨k, mk, rfl⟩ := List.mem_map.mp mb
          rw [show vc (lessR k (vc k p) y) = fun j => vc k j - vc k p * vc y j from funext (lv k (h.rf.len k mk))]
          exact (Sp.mem (by simp [mk])).less _ hy
        · rw [List.mem_singleton.mp mb]
          exact hy
      · obtain ⟨k, r', _, hr, rfl⟩ := clear_mem mb
        have mr := List.mem_of_getElem? hr
        rw [show vc (lessR r' (vc r' p) y) = fun j => vc r' j - vc r' p * vc y j from funext (lv r' (h.len r' mr))]
        exact (Sp.mem (by simp [mr])).less _ hy
    · refine fun s => s.mono fun b mb => ?_
      have hy : Sp ((K.map (fun k => lessR k (vc k p) y) ++ [y]) ++ clearR L p a y) (vc y) := Sp.mem (by simp)
      have back : ∀ r : List Rat, r.length = w → lessR r (vc r p) y ∈ (K.map (fun k => lessR k (vc k p) y) ++ [y]) ++ clearR L p a y → Sp ((K.map (fun k => lessR k (vc k p) y) ++ [y]) ++ clearR L p a y) (vc r) := fun r hr m => by
        have := (Sp.mem m).less (-(vc r p)) hy
        have e : (fun j => vc (lessR r (vc r p) y) j - -(vc r p) * vc y j) = vc r := by
          funext j
          rw [lv r hr]
          grind
        rwa [e] at this
      rcases List.mem_append.mp mb with mb | mb
      · exact back b (h.rf.len b mb) (List.mem_append_left _ (List.mem_append_left _ (List.mem_map.mpr ⟨b, mb, rfl⟩)))
      · obtain ⟨k, hk, rfl⟩ := List.getElem_of_mem mb
        by_cases q : k = a
        · subst q
          have : L[k] = x := by
            rw [List.getElem?_eq_getElem hk] at ha
            exact Option.some.inj ha
          rw [this, hyx]
          exact hy.scal _
        · exact back _ (h.len _ mb) (List.mem_append_right _ (clear_in q (List.getElem?_eq_getElem hk)))
  · rw [hKl]
    unfold clearR
    rw [List.length_map, filter_ne_len _ _ hal]
    have := h.many
    omega
  · rw [hKl]
    rcases List.mem_append.mp m with m | m
    · obtain ⟨k', mk, rfl⟩ := List.mem_map.mp m
      exact less_rz (h.rf.len k' mk) yl (h.kz k' mk) yr
    · rw [List.mem_singleton.mp m]
      exact rz_mono yr (by show _ ≤ 3 * uA u0 K.length + 1; omega) (by show _ ≤ 3 * uA u0 K.length + 1; omega)
  · rw [hKl]
    obtain ⟨k', r', _, hr, rfl⟩ := clear_mem m
    have mr := List.mem_of_getElem? hr
    exact less_rz (h.len r' mr) yl (h.lz r' mr) yr
/-- behind the last column -/
theorem El.fin {w u0 : Nat} {t K L : List (List Rat)} (h : El w w u0 t K L) (ht : ∀ r ∈ t, r.length = w) : K = spanR t := by
  obtain ⟨s1, s2⟩ := span_rf ht
  refine rf_one h.rf s1 fun v => ?_
  rw [s2 v, ← h.sp v]
  refine ⟨fun s => s.mono fun a m => Sp.mem (by simp [m]), fun s => s.mono fun a m => ?_⟩
  rcases List.mem_append.mp m with m | m
  · exact Sp.mem m
  · have : vc a = fun _ => 0 := by
      funext j
      by_cases q : j < w
      · exact h.low a m j q
      · exact vc_of (by rw [h.len a m]; omega)
    rw [this]
    exact .zero
end Lw

namespace Lw
open PySem PySem.Spec PyProof.Rows L2 Py
/-! k06: the law's own rows -/
abbrev LN (ps : List Nat) : D := .lst (ps.map fun p : Nat => D.int (p : Nat))
theorem notin_nats {k : Nat} {ps : List Nat} {S : Sto} : opNotIn (.d (.int (k : Nat))) (.d (LN ps)) S = .ok (.d (.bl (!decide (k ∈ ps)))) S := by
  have e : LN ps = D.lst ((ps.map fun p : Nat => (p : Int)).map D.int) := by
    unfold LN
    rw [List.map_map]
    rfl
  rw [e]
  show inL true (.d (.int (k : Nat))) (.d (D.lst ((ps.map fun p : Nat => (p : Int)).map D.int))) S = _
  unfold inL wpy
  dsimp only
  rw [D.py, D.py, pyL_map (g := PyData.int) fun _ => by rw [D.py]]
  dsimp only [Option.map_some]
  have h1 : shp (.int (k : Int)) = true := by
    unfold shp
    simp [SeqAt.shaped, PyData.canLay0, PyData.depth]
  have h2 : shp (.list ((ps.map fun p : Nat => (p : Int)).map PyData.int)) = true := by
    show (_ && _) = true
    rw [PyData.canLay0, lay_map fun _ => by simp [PyData.canLay0], Bool.true_and, decide_eq_true_eq, PyData.depth]
    have := depth_map (g := PyData.int) (n := 0) (fun _ => by simp [PyData.depth]) (ps.map fun p : Nat => (p : Int))
    omega
  rw [if_pos ⟨h1, h2⟩]
  congr 3
  rw [if_pos rfl]
  congr 1
  rw [List.map_map]
  by_cases h : k ∈ ps
  · simp only [h, decide_true, List.any_eq_true, List.mem_map]
    exact ⟨_, ⟨k, h, rfl⟩, by simp [PyData.eqv]⟩
  · simp only [h, decide_false, List.any_eq_false, List.mem_map]
    rintro _ ⟨p, hp, rfl⟩
    simp only [Function.comp, PyData.eqv]
    intro e
    have : (p : Int) = (k : Int) := by simpa using e
    exact h (by rw [show k = p by omega]; exact hp)
/-- sums of rows, as a row -/
def joinR (ns : List Rat) (L : List (List Rat)) (w : Nat) : List Rat := (List.range w).map fun j => cmb ns L j
theorem joinR_len (ns : List Rat) (L : List (List Rat)) (w : Nat) : (joinR ns L w).length = w := by simp [joinR]
theorem cmb_out {w : Nat} : ∀ (B : List (List Rat)) (es : List Rat) (j : Nat), w ≤ j → (∀ a ∈ B, a.length = w) → cmb es B j = 0
  | [], es, _, _, _ => by cases es <;> rfl
  | a :: B, [], _, _, _ => rfl
  | a :: B, d :: es, j, hj, hB => by
    show d * vc a j + cmb es B j = 0
    rw [cmb_out B es j hj fun x m => hB x (by simp [m]), vc_of (by rw [hB a (by simp)]; omega)]
    grind
theorem joinR_vc {w : Nat} {ns : List Rat} {L : List (List Rat)} (hL : ∀ a ∈ L, a.length = w) (j : Nat) : vc (joinR ns L w) j = cmb ns L j := by
  by_cases hj : j < w
  · rw [vc_get (by rw [joinR_len]; exact hj)]
    simp [joinR]
  · rw [vc_of (by rw [joinR_len]; omega), cmb_out L ns j (by omega) hL]
theorem cmb_take : ∀ {ns : List Rat} {L : List (List Rat)} {k : Nat} {n : Rat} {l : List Rat}, ns[k]? = some n → L[k]? = some l → ∀ j, cmb (ns.take (k + 1)) L j = cmb (ns.take k) L j + n * vc l j
  | a :: ns, b :: L, 0, n, l, h1, h2, j => by
    cases h1
    cases h2
    show a * vc b j + cmb (ns.take 0) L j = 0 + a * vc b j
    rw [show ns.take 0 = [] from rfl]
    show a * vc b j + 0 = _
    grind
  | a :: ns, b :: L, k + 1, n, l, h1, h2, j => by
    show a * vc b j + cmb (ns.take (k + 1)) L j = a * vc b j + cmb (ns.take k) L j + n * vc l j
    rw [cmb_take (by simpa using h1) (by simpa using h2)]
    grind
  | [], _, _, _, _, h1, _, _ => by simp at h1
  | _ :: _, [], _, _, _, _, h2, _ => by simp at h2
theorem cmb_sz {a b : Nat} {ns : List Rat} {L : List (List Rat)} (hn : ∀ q ∈ ns, Sz a q) (hL : ∀ l ∈ L, ∀ j, Sz b (vc l j)) (j : Nat) : ∀ k, Sz (1 + k * (a + b + 1)) (cmb (ns.take k) L j) := by
  intro k
  induction k with
  | zero =>
    have : cmb (ns.take 0) L j = 0 := by rw [List.take_zero]; cases L <;> rfl
    rw [this]
    exact sz_zero.mono (by omega)
  | succ k ih =>
    by_cases h : k < ns.length ∧ k < L.length
    · rw [cmb_take (List.getElem?_eq_getElem h.1) (List.getElem?_eq_getElem h.2)]
      refine sz_add ih (sz_mul (hn _ (List.getElem_mem h.1)) (hL _ (List.getElem_mem h.2) j) (Nat.le_refl _)) ?_
      rw [Nat.succ_mul]
      omega
    · have : ∀ (ns : List Rat) (L : List (List Rat)) (k : Nat), ¬ (k < ns.length ∧ k < L.length) → cmb (ns.take (k + 1)) L j = cmb (ns.take k) L j := fun ns => by
        induction ns with
        | nil => intro L k _; rw [List.take_nil, List.take_nil]
        | cons x ns ih =>
          intro L k hk
          cases L with
          | nil => cases k <;> rfl
          | cons l L =>
            cases k with
            | zero => exact absurd ⟨by simp, by simp⟩ hk
            | succ k =>
              show x * vc l j + cmb (ns.take (k + 1)) L j = x * vc l j + cmb (ns.take k) L j
              rw [ih L k (by simpa using hk)]
      rw [this ns L k h]
      refine ih.mono ?_
      rw [Nat.succ_mul]
      omega
theorem set_map_range {α : Type} (w p : Nat) (f : Nat → α) (v : α) : ((List.range w).map f).set p v = (List.range w).map fun q => if q = p then v else f q := by
  refine List.ext_getElem? fun i => ?_
  rw [List.getElem?_set, List.getElem?_map, List.getElem?_map, List.length_map, List.length_range]
  by_cases h : p = i
  · subst h
    by_cases hp : p < w
    · rw [if_pos rfl, if_pos hp, List.getElem?_range hp]
      simp
    · rw [if_pos rfl, if_neg hp, List.getElem?_eq_none (by simpa using hp)]
      rfl
  · rw [if_neg h]
    by_cases hi : i < w
    · rw [List.getElem?_range hi]
      simp only [Option.map_some]
      rw [if_neg (Ne.symm h)]
    · rw [List.getElem?_eq_none (by simpa using hi)]
      rfl
theorem ixN_nat {n p : Nat} (h : p < n) : ixN n (p : Int) = some p := by
  unfold ixN
  rw [if_pos (by omega), if_pos (by omega)]
  simp
theorem other_ok {n i v : Nat} {V : Int} {o : Ce} {S : Sto} {Q : Py.W → Sto → Prop} (hn : 4 ≤ n) (hV : V = v) (hv : v ≤ 4) (ho : S[i]? = some o) (hf : Feed o) (h : ∀ q o', Sz 67 q → q ≠ 0 → Feed o' → Q (.d (TQ q)) (S.set i o')) : (FT n i__law_other [.c i, .d (.int V)] S).sat Q := by
  obtain ⟨n, rfl⟩ : ∃ k, n = k + 1 := ⟨n - 1, by omega⟩
  have hi : i < S.length := (List.getElem?_eq_some_iff.mp ho).1
  have z2 : (2 : Nat) ≤ sizeLine := by decide
  have tk : ∀ o' : Ce, (S.set i o').take S.length = S.set i o' := fun o' => List.take_of_length_le (by simp)
  rw [FT__law_other]
  with_reducible refine run_sat (by simp) ?_
  unfold c__law_other
  simp_all!
  refine number_ok (by omega) hV hv ho hf fun q o hq hf => ?_
  simp!
  with_reducible refine rs_cut (fun e S1 => S1 = S.set i o ∧ q ≠ 0 ∧ ∃ x0 x1, e = [x0, x1, some (.d (TQ q))]) ?_ ?_
  · simp!
    refine br_of (fun h1 => ?_) (fun h1 => ?_)
    · simp!
      refine draw_ok (by omega) (set_get hi) hf (by decide) (by decide) fun r o h0 h1 hf => ?_
      obtain ⟨r, rfl⟩ : ∃ r' : Nat, r = r' := ⟨r.toNat, by omega⟩
      simp! [List.set_set, z2]
      rw [tk]
      have e : TQ (Rat.divInt 1 (1 + (r : Nat))) = .tup [.int 1, .int (1 + (r : Nat))] := by
        have : r = 0 ∨ r = 1 ∨ r = 2 := by omega
        rcases this with rfl | rfl | rfl <;> rfl
      have hne : Rat.divInt 1 (1 + (r : Nat)) ≠ 0 := by
        have : r = 0 ∨ r = 1 ∨ r = 2 := by omega
        rcases this with rfl | rfl | rfl <;> decide
      rw [← e]
      refine h _ o ?_ hne hf
      exact sz_divInt (Nat.lt_of_lt_of_le (show (1 : Int).natAbs < 2 ^ 3 by decide) (Nat.pow_le_pow_right (by decide) (by decide))) (Nat.lt_of_lt_of_le (show (1 + (r : Int)).natAbs < 2 ^ 3 by omega) (Nat.pow_le_pow_right (by decide) (by decide))) (by omega)
    · simp!
      refine ⟨fun e => h1 (by rw [e]; rfl), _, _, rfl⟩
  intro e S1 hh
  obtain ⟨hS, hne, x0, x1, hE⟩ := hh
  subst hS hE
  simp!
  rw [tk]
  exact h q o hq hne hf
end Lw

namespace Lw
open PySem PySem.Spec PyProof.Rows L2 Py
/-! k06: a basis, and rows of the same space -/
/-- a row of the basis -/
structure BR (w : Nat) (ps : List Nat) (p : Nat) (r : List Rat) : Prop where
  len : r.length = w
  low : ∀ j, j < p → vc r j = 0
  one : vc r p = 1
  off : ∀ j ∈ ps, j ≠ p → vc r j = 0
  sz : ∀ q ∈ r, Sz 67 q
theorem vc_set {r : List Rat} {k j : Nat} {q : Rat} (hk : k < r.length) : vc (r.set k q) j = if j = k then q else vc r j := by
  unfold vc
  rw [List.getD_eq_getElem?_getD, List.getD_eq_getElem?_getD, List.getElem?_set]
  by_cases h : k = j
  · subst h
    rw [if_pos rfl, if_pos hk, if_pos rfl]
    rfl
  · rw [if_neg h, if_neg (Ne.symm h)]
theorem BR.set {w p k : Nat} {ps : List Nat} {r : List Rat} {q : Rat} (h : BR w ps p r) (hk : k < w) (hp : p < k) (hn : k ∉ ps) (hq : Sz 67 q) : BR w ps p (r.set k q) := by
  have hk' : k < r.length := by rw [h.len]; exact hk
  refine ⟨by rw [List.length_set]; exact h.len, fun j hj => ?_, ?_, fun j hj hne => ?_, fun x m => ?_⟩
  · rw [vc_set hk', if_neg (by omega)]
    exact h.low j hj
  · rw [vc_set hk', if_neg (by omega)]
    exact h.one
  · rw [vc_set hk', if_neg (fun e => hn (by rw [← e]; exact hj))]
    exact h.off j hj hne
  · rcases List.mem_or_eq_of_mem_set m with m | rfl
    · exact h.sz x m
    · exact hq
theorem BR.start {w p : Nat} {ps : List Nat} (hp : p < w) : BR w ps p ((List.replicate w 0).set p 1) := by
  have hk : p < (List.replicate w (0 : Rat)).length := by simpa using hp
  refine ⟨by simp, fun j hj => ?_, ?_, fun j hj hne => ?_, fun x m => ?_⟩
  · rw [vc_set hk, if_neg (by omega), zr_vc]
  · rw [vc_set hk, if_pos rfl]
  · rw [vc_set hk, if_neg hne, zr_vc]
  · rcases List.mem_or_eq_of_mem_set m with m | rfl
    · rw [(List.mem_replicate.mp m).2]
      exact sz_zero.mono (by omega)
    · exact sz_int (i := 1) (Nat.one_lt_two_pow (by decide)) (by decide)
theorem br_rf {w : Nat} {ps : List Nat} {B : List (List Rat)} (hp : ps.Pairwise (· < ·)) (hw : ∀ p ∈ ps, p < w) (hl : B.length = ps.length) (h : ∀ (j : Nat) (r : List Rat), B[j]? = some r → ∃ p, ps[j]? = some p ∧ BR w ps p r) : Rf w B ∧ (∀ k ∈ B, ld k ∈ ps) ∧ ∀ k ∈ B, ∀ q ∈ k, Sz 67 q := by
  have hld : ∀ {p r}, BR w ps p r → ld r = p := fun b => ld_eq b.low (by rw [b.one]; decide)
  have hm : ∀ k ∈ B, ∃ p ∈ ps, BR w ps p k := fun k m => by
    obtain ⟨j, hj, rfl⟩ := List.getElem_of_mem m
    obtain ⟨p, h1, h2⟩ := h j _ (List.getElem?_eq_getElem hj)
    exact ⟨p, List.mem_of_getElem? h1, h2⟩
  refine ⟨⟨fun k m => ?_, fun k m => ?_, fun k m => ?_, ?_⟩, fun k m => ?_, fun k m => ?_⟩
  · obtain ⟨p, _, b⟩ := hm k m
    exact b.len
  · obtain ⟨p, mp, b⟩ := hm k m
    rw [hld b]
    exact hw p mp
  · obtain ⟨p, mp, b⟩ := hm k m
    rw [hld b]
    exact b.one
  · rw [List.pairwise_iff_getElem]
    intro i j hi hj hij
    obtain ⟨p, h1, h2⟩ := h i _ (List.getElem?_eq_getElem hi)
    obtain ⟨q, h3, h4⟩ := h j _ (List.getElem?_eq_getElem hj)
    obtain ⟨i1, rfl⟩ := List.getElem?_eq_some_iff.mp h1
    obtain ⟨i2, rfl⟩ := List.getElem?_eq_some_iff.mp h3
    have hlt := List.pairwise_iff_getElem.mp hp i j i1 i2 hij
    rw [hld h2, hld h4]
    exact ⟨hlt, h2.off _ (List.getElem_mem i2) (by omega)⟩
  · obtain ⟨p, mp, b⟩ := hm k m
    rw [hld b]
    exact mp
  · obtain ⟨p, mp, b⟩ := hm k m
    exact b.sz
/-! rows of the same space -/
theorem cmb_takeB : ∀ (ns : List Rat) (L : List (List Rat)) (j : Nat), cmb ns L j = cmb ns (L.take ns.length) j
  | [], L, j => by cases L <;> rfl
  | n :: ns, [], j => rfl
  | n :: ns, l :: L, j => by
    show n * vc l j + cmb ns L j = n * vc l j + cmb ns (L.take ns.length) j
    rw [← cmb_takeB ns L j]
theorem tri_span {w : Nat} {B A : List (List Rat)} (hB : ∀ b ∈ B, b.length = w) (hA : A.length = B.length) (h : ∀ (k : Nat) (a : List Rat), A[k]? = some a → ∃ ns c, ns.length = k ∧ c ≠ 0 ∧ a = joinR (ns ++ [c]) B w) : ∀ v, Sp A v ↔ Sp B v := by
  have hvc : ∀ {ns : List Rat}, vc (joinR ns B w) = cmb ns B := fun {ns} => funext fun j => joinR_vc hB j
  intro v
  refine ⟨fun s => s.mono fun a m => ?_, fun s => s.mono fun b m => ?_⟩
  · obtain ⟨k, hk, rfl⟩ := List.getElem_of_mem m
    obtain ⟨ns, c, _, _, e⟩ := h k _ (List.getElem?_eq_getElem hk)
    rw [e, hvc]
    exact cmb_sp fun _ m => m
  · obtain ⟨k, hk, rfl⟩ := List.getElem_of_mem m
    induction k using Nat.strongRecOn with
    | ind k ih =>
      have hkA : k < A.length := by omega
      obtain ⟨ns, c, hl, hc, e⟩ := h k _ (List.getElem?_eq_getElem hkA)
      have s1 : Sp A (vc A[k]) := Sp.mem (List.getElem_mem hkA)
      have s2 : Sp A (cmb ns B) := by
        have : cmb ns B = cmb ns (B.take k) := funext fun j => by rw [cmb_takeB, hl]
        rw [this]
        refine (cmb_sp fun _ m => m : Sp (B.take k) _).mono fun b mb => ?_
        obtain ⟨i, hi, rfl⟩ := List.getElem_of_mem mb
        rw [List.length_take] at hi
        rw [List.getElem_take]
        exact ih i (by omega) (by omega) (List.getElem_mem _)
      have s3 := (s1.less 1 s2).scal c⁻¹
      have e2 : (fun j => c⁻¹ * (vc A[k] j - 1 * cmb ns B j)) = vc B[k] := by
        funext j
        rw [e, hvc]
        have e3 : cmb (ns ++ [c]) B j = cmb ns B j + c * vc B[k] j := by
          have e4 := cmb_take (ns := ns ++ [c]) (L := B) (k := k) (n := c) (l := B[k]) (by rw [List.getElem?_append_right (by omega), hl, Nat.sub_self]; rfl) (List.getElem?_eq_getElem hk) j
          rw [List.take_of_length_le (by simp; omega), List.take_append_of_le_length (by omega), List.take_of_length_le (by omega)] at e4
          exact e4
        rw [e3]
        have : c * c⁻¹ = 1 := Rat.mul_inv_cancel _ hc
        have e5 : c⁻¹ * (cmb ns B j + c * vc B[k] j - 1 * cmb ns B j) = (c * c⁻¹) * vc B[k] j := by grind
        rw [e5, this]
        grind
      rwa [e2] at s3
/-- independent rows of a space in reduced form -/
theorem ind_of_span {w : Nat} {B A : List (List Rat)} (hB : Rf w B) (hA : A.length = B.length) (hl : ∀ a ∈ A, a.length = w) (h : ∀ v, Sp A v ↔ Sp B v) : Ind A := by
  obtain ⟨s1, s2⟩ := span_rf hl
  have : spanR A = B := rf_one s1 hB fun v => by rw [s2, h]
  refine ind_of_rank hl ?_
  rw [this, hA]
/-- a place that does not lead, changed -/
theorem not_sp {w at' : Nat} {B : List (List Rat)} {u v : Vc} {d : Rat} (hB : Rf w B) (hat : ∀ k ∈ B, ld k ≠ at') (hd : d ≠ 0) (hu : Sp B u) (hv : ∀ j, v j = u j + if j = at' then d else 0) : ¬ Sp B v := fun s => by
  have s2 := s.less 1 hu
  obtain ⟨k, m, e⟩ := sp_lead hB s2 (p := at') (fun j hj => by
    show v j - 1 * u j = 0
    rw [hv, if_neg (by omega)]
    grind) (by
    show v at' - 1 * u at' ≠ 0
    rw [hv, if_pos rfl]
    grind)
  exact hat k m e
end Lw

namespace Lw
open PySem PySem.Spec PyProof.Rows L2 Py
/-! the inverse of a table: plain -/
def prodR (w : Nat) (a b : List (List Rat)) : List (List Rat) := a.map fun r => joinR r b w
theorem unit_get {n i : Nat} (h : i < n) : (unitR n)[i]? = some (mkR n i) := by
  unfold unitR
  rw [List.getElem?_map, List.getElem?_range h]
  rfl
theorem unit_len (n : Nat) : (unitR n).length = n := by simp [unitR]
theorem mkR_len (n i : Nat) : (mkR n i).length = n := by simp [mkR]
theorem unit_mem {n : Nat} {r : List Rat} (h : r ∈ unitR n) : ∃ i, i < n ∧ r = mkR n i := by
  obtain ⟨i, hi, rfl⟩ := List.mem_map.mp h
  exact ⟨i, List.mem_range.mp hi, rfl⟩
theorem mkR_ld {n i : Nat} (h : i < n) : ld (mkR n i) = i := ld_eq (fun j hj => by rw [mkR_vc, if_neg (by omega)]) (by rw [mkR_vc, if_pos ⟨h, rfl⟩]; decide)
theorem unit_rf (n : Nat) : Rf n (unitR n) := by
  refine ⟨fun k m => ?_, fun k m => ?_, fun k m => ?_, ?_⟩
  · obtain ⟨i, _, rfl⟩ := unit_mem m
    exact mkR_len n i
  · obtain ⟨i, hi, rfl⟩ := unit_mem m
    rw [mkR_ld hi]
    exact hi
  · obtain ⟨i, hi, rfl⟩ := unit_mem m
    rw [mkR_ld hi, mkR_vc, if_pos ⟨hi, rfl⟩]
  · rw [List.pairwise_iff_getElem]
    intro i j hi hj hij
    have hi' : i < n := by rwa [unit_len] at hi
    have hj' : j < n := by rwa [unit_len] at hj
    have e1 : (unitR n)[i] = mkR n i := Option.some.inj ((List.getElem?_eq_getElem hi).symm.trans (unit_get hi'))
    have e2 : (unitR n)[j] = mkR n j := Option.some.inj ((List.getElem?_eq_getElem hj).symm.trans (unit_get hj'))
    rw [e1, e2, mkR_ld hi', mkR_ld hj', mkR_vc, if_neg (by omega)]
    exact ⟨hij, rfl⟩
theorem unit_all {n : Nat} {r : List Rat} (h : r.length = n) : Sp (unitR n) (vc r) := by
  have hu := unit_rf n
  refine (restR_in hu h).mp ?_
  have hl : (restR (unitR n) r).length = n := restR_len hu.len h
  have := ld_zero (r := restR (unitR n) r) fun j => by
    by_cases hj : j < n
    · have := restR_at hu h (mkR n j) (List.mem_of_getElem? (unit_get hj))
      rwa [mkR_ld hj] at this
    · exact vc_of (by omega)
  rw [this, hl]
/-- a table of full rank -/
structure Full (n : Nat) (A : List (List Rat)) : Prop where
  m : A.length = n
  len : ∀ a ∈ A, a.length = n
  sp : ∀ i, i < n → Sp A (vc (mkR n i))
theorem Full.span {n : Nat} {A : List (List Rat)} (h : Full n A) : spanR A = unitR n := by
  obtain ⟨s1, s2⟩ := span_rf h.len
  refine rf_one s1 (unit_rf n) fun v => ?_
  rw [s2]
  refine ⟨fun s => s.mono fun a m => unit_all (h.len a m), fun s => s.mono fun a m => ?_⟩
  obtain ⟨i, hi, rfl⟩ := unit_mem m
  exact h.sp i hi
theorem Full.ind {n : Nat} {A : List (List Rat)} (h : Full n A) : Ind A := ind_of_rank h.len (by rw [h.span, unit_len, h.m])
def invR (A : List (List Rat)) : List (List Rat) := (List.range A.length).map fun i => ((leftR A (mkR A.length i)).drop A.length).map fun c => -c
theorem Full.row {n i : Nat} {A : List (List Rat)} (h : Full n A) (hi : i < n) : ∃ cs : List Rat, cs.length = n ∧ (∀ j, vc (mkR n i) j = cmb cs A j) ∧ n ≤ ld (leftR A (mkR n i)) ∧ ((leftR A (mkR n i)).drop n).map (fun c => -c) = cs := by
  obtain ⟨cs, c1, c2⟩ := sp_cmb (h.sp i hi)
  obtain ⟨h1, h2⟩ := left_nums h.len (mkR_len n i) h.ind c1 c2
  exact ⟨cs, by rw [c1, h.m], c2, h1, h2⟩
theorem Full.solved {n i : Nat} {A : List (List Rat)} (h : Full n A) (hi : i < n) : ∃ cs, (invR A)[i]? = some cs ∧ cs.length = n ∧ (∀ j, vc (mkR n i) j = cmb cs A j) ∧ solveD A (mkR n i) = TR cs := by
  obtain ⟨cs, c1, c2, h1, h2⟩ := h.row hi
  refine ⟨cs, ?_, c1, c2, ?_⟩
  · unfold invR
    rw [List.getElem?_map, List.getElem?_range (by rw [h.m]; exact hi)]
    show some (((leftR A (mkR A.length i)).drop A.length).map fun c => -c) = some cs
    rw [h.m, h2]
  · unfold solveD
    rw [mkR_len, if_neg (by omega), h2]
theorem inv_len (A : List (List Rat)) : (invR A).length = A.length := by simp [invR]
theorem cmb_nil (L : List (List Rat)) (j : Nat) : cmb [] L j = 0 := by cases L <;> rfl
theorem cmb_lin (f g : Nat → Rat) (c : Rat) (j : Nat) : ∀ (l : List Nat) (A : List (List Rat)), cmb (l.map fun i => c * f i + g i) A j = c * cmb (l.map f) A j + cmb (l.map g) A j
  | [], A => by
    rw [List.map_nil, List.map_nil, List.map_nil, cmb_nil]
    grind
  | i :: l, [] => by
    show (0 : Rat) = c * 0 + 0
    grind
  | i :: l, a :: A => by
    show (c * f i + g i) * vc a j + cmb (l.map fun i => c * f i + g i) A j = c * (f i * vc a j + cmb (l.map f) A j) + (g i * vc a j + cmb (l.map g) A j)
    rw [cmb_lin f g c j l A]
    grind
theorem range_vc {x : List Rat} {n : Nat} (h : x.length = n) : (List.range n).map (vc x) = x := by
  refine vc_ext (by simp [h]) fun j => ?_
  by_cases hj : j < n
  · rw [vc_get (by simpa using hj)]
    simp
  · rw [vc_of (by simp; omega), vc_of (by omega)]
theorem cmb_assoc {n w : Nat} {A : List (List Rat)} (hA : ∀ a ∈ A, a.length = w) (j : Nat) : ∀ (r : List Rat) (X : List (List Rat)), (∀ x ∈ X, x.length = n) → cmb (joinR r X n) A j = cmb r (prodR w X A) j := by
  have z : ∀ (l : List Nat) (A : List (List Rat)), cmb (l.map fun _ => (0 : Rat)) A j = 0 := fun l => by
    induction l with
    | nil => intro A; exact cmb_nil A j
    | cons i l ih =>
      intro A
      cases A with
      | nil => rfl
      | cons a A =>
        show 0 * vc a j + cmb (l.map fun _ => (0 : Rat)) A j = 0
        rw [ih]
        grind
  intro r
  induction r with
  | nil =>
    intro X _
    rw [cmb_nil]
    unfold joinR
    rw [show (fun j => cmb [] X j) = fun _ => (0 : Rat) from funext fun j => cmb_nil X j]
    exact z _ _
  | cons c cs ih =>
    intro X hX
    cases X with
    | nil => exact z _ _
    | cons x X =>
      have e := cmb_lin (vc x) (cmb cs X) c j (List.range n) A
      show cmb ((List.range n).map fun i => c * vc x i + cmb cs X i) A j = c * vc (joinR x A w) j + cmb cs (prodR w X A) j
      rw [e, range_vc (hX x (by simp)), ← ih X fun y m => hX y (by simp [m]), joinR_vc hA]
      rfl
theorem cmb_unit {n : Nat} {r : List Rat} (h : r.length = n) (j : Nat) : cmb r (unitR n) j = vc r j := by
  have e : mrk (List.replicate n ([] : List Rat)) = unitR n := by
    unfold mrk unitR
    rw [List.length_replicate]
    refine List.map_congr_left fun i hi => ?_
    rw [List.getD_eq_getElem?_getD, List.getElem?_replicate, if_pos (List.mem_range.mp hi)]
    rfl
  rw [← e, cmb_mrk (w := 0) (fun a m => by rw [(List.mem_replicate.mp m).2]; rfl) (by simpa using h), if_neg (by omega), Nat.sub_zero]
theorem cmb_mk {n k : Nat} {A : List (List Rat)} {a : List Rat} (hm : A.length = n) (hk : A[k]? = some a) (j : Nat) : cmb (mkR n k) A j = vc a j := by
  have hkn : k < n := by rw [← hm]; exact (List.getElem?_eq_some_iff.mp hk).1
  have e : mkR n k = (List.replicate A.length 0).set k 1 := by
    refine vc_ext (by simp [mkR, hm]) fun i => ?_
    rw [vc_set (by simpa [hm] using hkn), zr_vc, mkR_vc]
    by_cases q : i = k
    · rw [if_pos ⟨by omega, q.symm⟩, if_pos q]
    · rw [if_neg (fun h => q h.2.symm), if_neg q]
  rw [e, cmb_one hk]
  grind
/-- from both sides -/
theorem Full.left {n : Nat} {A : List (List Rat)} (h : Full n A) : prodR n (invR A) A = unitR n := by
  refine List.ext_getElem? fun i => ?_
  unfold prodR
  rw [List.getElem?_map]
  by_cases hi : i < n
  · obtain ⟨cs, h1, h2, h3, h4⟩ := h.solved hi
    rw [h1, unit_get hi]
    show some _ = some _
    congr 1
    refine vc_ext (by rw [joinR_len, mkR_len]) fun j => ?_
    rw [joinR_vc h.len, h3]
  · rw [List.getElem?_eq_none (by rw [inv_len, h.m]; omega), List.getElem?_eq_none (by rw [unit_len]; omega)]
    rfl
theorem Full.inv_wid {n : Nat} {A : List (List Rat)} (h : Full n A) : ∀ x ∈ invR A, x.length = n := fun x m => by
  obtain ⟨i, hi, rfl⟩ := List.getElem_of_mem m
  obtain ⟨cs, h1, h2, _⟩ := h.solved (i := i) (by rw [inv_len, h.m] at hi; exact hi)
  rw [List.getElem?_eq_getElem hi] at h1
  cases h1
  exact h2
theorem Full.right {n : Nat} {A : List (List Rat)} (h : Full n A) : prodR n A (invR A) = unitR n := by
  refine List.ext_getElem? fun k => ?_
  unfold prodR
  rw [List.getElem?_map]
  by_cases hk : k < n
  · have hk' : k < A.length := by rw [h.m]; exact hk
    have ha : A[k]? = some A[k] := List.getElem?_eq_getElem hk'
    rw [ha, unit_get hk]
    show some _ = some _
    congr 1
    refine ind_one h.ind (by rw [joinR_len, h.m]) (by rw [mkR_len, h.m]) fun j => ?_
    rw [cmb_assoc (w := n) h.len j _ _ h.inv_wid, h.left, cmb_unit (h.len _ (List.getElem_mem _)), cmb_mk h.m ha]
  · rw [List.getElem?_eq_none (by rw [h.m]; omega), List.getElem?_eq_none (by rw [unit_len]; omega)]
    rfl
/-! tables changed -/
theorem Full.mono {n : Nat} {A A' : List (List Rat)} (h : Full n A) (hm : A'.length = n) (hl : ∀ a ∈ A', a.length = n) (hs : ∀ a ∈ A, Sp A' (vc a)) : Full n A' := ⟨hm, hl, fun i hi => (h.sp i hi).mono hs⟩
def addR (n : Nat) (r : List Rat) (c : Rat) (s : List Rat) : List Rat := (List.range n).map fun j => vc r j + c * vc s j
theorem addR_len (n : Nat) (r : List Rat) (c : Rat) (s : List Rat) : (addR n r c s).length = n := by simp [addR]
theorem addR_vc {n : Nat} {r s : List Rat} {c : Rat} (hr : r.length = n) (hs : s.length = n) (j : Nat) : vc (addR n r c s) j = vc r j + c * vc s j := by
  by_cases hj : j < n
  · rw [vc_get (by rw [addR_len]; exact hj)]
    simp [addR]
  · rw [vc_of (by rw [addR_len]; omega), vc_of (by omega), vc_of (by omega)]
    grind
theorem Full.add {n one two : Nat} {A : List (List Rat)} {a b : List Rat} {c : Rat} (h : Full n A) (h1 : A[one]? = some a) (h2 : A[two]? = some b) (hne : one ≠ two) : Full n (A.set one (addR n a c b)) := by
  have la := h.len a (List.mem_of_getElem? h1)
  have lb := h.len b (List.mem_of_getElem? h2)
  have i1 := (List.getElem?_eq_some_iff.mp h1).1
  have hb : (A.set one (addR n a c b))[two]? = some b := by rw [List.getElem?_set_ne hne]; exact h2
  have ha : (A.set one (addR n a c b))[one]? = some (addR n a c b) := List.getElem?_set_self i1
  refine h.mono (by rw [List.length_set, h.m]) (fun x m => ?_) fun x m => ?_
  · rcases List.mem_or_eq_of_mem_set m with m | rfl
    · exact h.len x m
    · exact addR_len _ _ _ _
  · obtain ⟨k, hk, rfl⟩ := List.getElem_of_mem m
    by_cases q : (k : Nat) = one
    · subst q
      have s := (Sp.mem (List.mem_of_getElem? ha)).less c (Sp.mem (List.mem_of_getElem? hb))
      rw [List.getElem?_eq_getElem hk] at h1
      cases h1
      have e : (fun j => vc (addR n A[k] c b) j - c * vc b j) = vc A[k] := by
        funext j
        rw [addR_vc la lb]
        grind
      rwa [e] at s
    · refine Sp.mem (List.mem_of_getElem? (i := k) ?_)
      rw [List.getElem?_set_ne (Ne.symm q)]
      exact List.getElem?_eq_getElem hk
theorem Full.swap {n one two : Nat} {A : List (List Rat)} {a b : List Rat} (h : Full n A) (h1 : A[one]? = some a) (h2 : A[two]? = some b) : Full n ((A.set one b).set two a) := by
  have i1 := (List.getElem?_eq_some_iff.mp h1).1
  have i2 := (List.getElem?_eq_some_iff.mp h2).1
  have g2 : ((A.set one b).set two a)[two]? = some a := List.getElem?_set_self (by simpa using i2)
  have g1 : ∃ k : Nat, ((A.set one b).set two a)[k]? = some b := by
    by_cases q : one = two
    · subst q
      rw [h1] at h2
      cases h2
      exact ⟨one, g2⟩
    · refine ⟨one, ?_⟩
      rw [List.getElem?_set_ne (Ne.symm q), List.getElem?_set_self i1]
  refine h.mono (by simp [h.m]) (fun x m => ?_) fun x m => ?_
  · rcases List.mem_or_eq_of_mem_set m with m | rfl
    · rcases List.mem_or_eq_of_mem_set m with m | rfl
      · exact h.len x m
      · exact h.len _ (List.mem_of_getElem? h2)
    · exact h.len _ (List.mem_of_getElem? h1)
  · obtain ⟨k, hk, rfl⟩ := List.getElem_of_mem m
    by_cases q : k = two
    · subst q
      obtain ⟨t, g1⟩ := g1
      rw [List.getElem?_eq_getElem hk] at h2
      cases h2
      exact Sp.mem (List.mem_of_getElem? g1)
    · by_cases q2 : k = one
      · subst q2
        rw [List.getElem?_eq_getElem hk] at h1
        cases h1
        exact Sp.mem (List.mem_of_getElem? g2)
      · refine Sp.mem (List.mem_of_getElem? (i := k) ?_)
        rw [List.getElem?_set_ne (Ne.symm q), List.getElem?_set_ne (Ne.symm q2)]
        exact List.getElem?_eq_getElem hk
/-- numbers other than 0 where row and column are the same -/
theorem full_diag {n : Nat} {A : List (List Rat)} (hm : A.length = n) (h : ∀ (i : Nat) (a : List Rat), A[i]? = some a → ∃ c : Rat, c ≠ 0 ∧ a = (List.replicate n 0).set i c) : Full n A := by
  refine ⟨hm, fun a m => ?_, fun i hi => ?_⟩
  · obtain ⟨k, hk, rfl⟩ := List.getElem_of_mem m
    obtain ⟨c, _, e⟩ := h k _ (List.getElem?_eq_getElem hk)
    rw [e]
    simp
  · have hi' : i < A.length := by omega
    obtain ⟨c, hc, e⟩ := h i _ (List.getElem?_eq_getElem hi')
    have s := (Sp.mem (List.getElem_mem hi')).scal c⁻¹
    have e2 : (fun j => c⁻¹ * vc A[i] j) = vc (mkR n i) := by
      funext j
      rw [e, vc_set (by simpa using hi), zr_vc, mkR_vc]
      have : c * c⁻¹ = 1 := Rat.mul_inv_cancel _ hc
      by_cases q : j = i
      · rw [if_pos q, if_pos ⟨by omega, q.symm⟩]
        grind
      · rw [if_neg q, if_neg (fun h => q h.2.symm)]
        grind
    rwa [e2] at s
/-! a dependent row -/
theorem cmb_setc : ∀ {cs : List Rat} {A : List (List Rat)} {i : Nat} {y : Rat} {a : List Rat}, cs[i]? = some y → A[i]? = some a → ∀ (x : Rat) (j : Nat), cmb (cs.set i x) A j = cmb cs A j + (x - y) * vc a j
  | c :: cs, b :: A, 0, y, a, h1, h2, x, j => by
    cases h1
    cases h2
    show x * vc b j + cmb cs A j = c * vc b j + cmb cs A j + (x - c) * vc b j
    grind
  | c :: cs, b :: A, i + 1, y, a, h1, h2, x, j => by
    show c * vc b j + cmb (cs.set i x) A j = c * vc b j + cmb cs A j + (x - y) * vc a j
    rw [cmb_setc (by simpa using h1) (by simpa using h2)]
    grind
  | [], _, _, _, _, h1, _, _, _ => by simp at h1
  | _ :: _, [], _, _, _, _, h2, _, _ => by simp at h2
theorem cmb_seta : ∀ {cs : List Rat} {A : List (List Rat)} {i : Nat} {y : Rat} {a : List Rat}, cs[i]? = some y → A[i]? = some a → ∀ (r : List Rat) (j : Nat), cmb cs (A.set i r) j = cmb cs A j + y * (vc r j - vc a j)
  | c :: cs, b :: A, 0, y, a, h1, h2, r, j => by
    cases h1
    cases h2
    show c * vc r j + cmb cs A j = c * vc b j + cmb cs A j + c * (vc r j - vc b j)
    grind
  | c :: cs, b :: A, i + 1, y, a, h1, h2, r, j => by
    show c * vc b j + cmb cs (A.set i r) j = c * vc b j + cmb cs A j + y * (vc r j - vc a j)
    rw [cmb_seta (by simpa using h1) (by simpa using h2)]
    grind
  | [], _, _, _, _, h1, _, _, _ => by simp at h1
  | _ :: _, [], _, _, _, _, h2, _, _ => by simp at h2
theorem dep_rank {n at' : Nat} {A : List (List Rat)} {cs : List Rat} (hm : A.length = n) (hl : ∀ a ∈ A, a.length = n) (hc : cs.length = n) (h0 : cs[at']? = some 0) : (spanR (A.set at' (joinR cs A n))).length < n := by
  have hat : at' < A.length := by
    rw [hm, ← hc]
    exact (List.getElem?_eq_some_iff.mp h0).1
  have hB : ∀ b ∈ A.set at' (joinR cs A n), b.length = n := fun b m => by
    rcases List.mem_or_eq_of_mem_set m with m | rfl
    · exact hl b m
    · exact joinR_len _ _ _
  have hle := spanR_len (A.set at' (joinR cs A n))
  rw [List.length_set, hm] at hle
  by_cases q : (spanR (A.set at' (joinR cs A n))).length = n
  · exfalso
    have hi := ind_of_rank hB (by rw [q, List.length_set, hm])
    have ga : A[at']? = some A[at'] := List.getElem?_eq_getElem hat
    have gb : (A.set at' (joinR cs A n))[at']? = some (joinR cs A n) := List.getElem?_set_self hat
    have := hi (cs.set at' (-1)) (by simp [hc, hm]) (fun j => by
      rw [cmb_setc h0 gb, cmb_seta h0 ga, joinR_vc hl]
      grind) (-1) (List.mem_of_getElem? (i := at') (List.getElem?_set_self (by omega)))
    exact absurd this (by decide)
  · omega
end Lw

namespace Lw
open PySem PySem.Spec PyProof.Rows L2 Py
/-! the inverse of a table: the program's side -/
theorem left_sz {w kr vr kb vb c N : Nat} {A : List (List Rat)} {b : List Rat} (hl : ∀ a ∈ A, a.length = w) (hb : b.length = w) (hz : ∀ a ∈ A, Rz kr vr a) (hbz : Rz kb vb b) (hN : A.length ≤ N) (hc : N + 1 ≤ 2 ^ c) : ∀ q ∈ leftR A b, Sz (uB (kr + vr + c) N + kb + (uB (kr + vr + c) N + vb + c)) q := by
  obtain ⟨m1, m2⟩ := mrk_len hl
  obtain ⟨s1, s2⟩ := span_rf m2
  have mz : ∀ r ∈ mrk A, Rz kr vr r := fun r m => by
    obtain ⟨i, hi, rfl⟩ := List.mem_map.mp m
    have hi := List.mem_range.mp hi
    refine rz_append (w := w) (m := w) ?_ mkR_01
    rw [List.getD_eq_getElem?_getD, List.getElem?_eq_getElem hi]
    exact hz _ (List.getElem_mem hi)
  have hspz := span_z (w := w + A.length) (t := mrk A) (c := c) (N := N) m2 mz (.inr (by rw [m1]; exact hN)) hc
  have hKl : (spanR (mrk A)).length ≤ N := by
    have := spanR_len (mrk A)
    omega
  have hbl : (b ++ List.replicate A.length (0 : Rat)).length = w + A.length := by simp [hb]
  have hbz2 : Rz kb vb (b ++ List.replicate A.length (0 : Rat)) := rz_append (w := w) (m := w) hbz fun q m => .inl (List.mem_replicate.mp m).2
  have u1 : 1 ≤ uB (kr + vr + c) N := uB_mono _ (Nat.zero_le N)
  obtain ⟨g1, _⟩ := grow_fr s1 hbl hspz hbz2 (c := c) (by omega) u1
  have lz := rz_sz (g1 (spanR (mrk A)).length)
  rw [List.take_length] at lz
  exact lz
theorem mkR_rz (n i : Nat) : Rz 1 0 (mkR n i) := by
  refine ⟨1, by decide, by decide, fun q m => ?_⟩
  rcases mkR_01 q m with rfl | rfl
  · exact Fr.zero
  · exact ⟨1, by grind, by decide⟩
theorem Full.inv_sz {n kr vr c N : Nat} {A : List (List Rat)} (h : Full n A) (hz : ∀ a ∈ A, Rz kr vr a) (hN : n ≤ N) (hc : N + 1 ≤ 2 ^ c) : ∀ x ∈ invR A, ∀ q ∈ x, Sz (uB (kr + vr + c) N + 1 + (uB (kr + vr + c) N + 0 + c)) q := fun x m q mq => by
  obtain ⟨i, hi, rfl⟩ := List.mem_map.mp m
  obtain ⟨p, mp, rfl⟩ := List.mem_map.mp mq
  have := left_sz (kb := 1) (vb := 0) h.len (by rw [mkR_len, h.m]) hz (mkR_rz A.length i) (by rw [h.m]; exact hN) hc p (List.mem_of_mem_drop mp)
  exact sz_neg this
theorem inverse_none {n m u kx vx ky vy : Nat} {A : List (List Rat)} {S : Sto} {Q : W → Sto → Prop} (hn : 14 ≤ n) (hm : A.length = m) (hl : ∀ a ∈ A, a.length = m) (hm2 : m ≤ 1000) (hy : Way u kx vx ky vy m A) (hb : 2 * (kx + vx) + 4 * u + (ky + vy) + 1 ≤ 60000000) (hr : (spanR A).length < m)
    (hQ : Q (.d .non) S) : (FT n i_inverse [.d (TT A)] S).sat Q := by
  obtain ⟨n, rfl⟩ : ∃ k, n = k + 1 := ⟨n - 1, by omega⟩
  have zA : A.length ≤ sizeLine := Nat.le_trans (show A.length ≤ 1000 by omega) (by decide)
  rw [FT_inverse]
  with_reducible refine run_sat (by simp) ?_
  unfold c_inverse
  simp_all! [List.length_map, zA]
  simp_all!
  refine rank_ok (t := A) (by omega) (.inl rfl) hl (by omega) (by omega) hy hb ?_
  simp!
  refine br_of (fun _ => ?_) (fun h => absurd (show _ < _ by simp; omega) h)
  simp!
  rw [List.take_length]
  exact hQ
theorem inverse_full {n m u kx vx ky vy kr vr c N : Nat} {A : List (List Rat)} {S : Sto} {Q : W → Sto → Prop} (hn : 14 ≤ n) (h : Full m A) (hm2 : m ≤ 1000) (hy : Way u kx vx ky vy m A) (hb : 2 * (kx + vx) + 4 * u + (ky + vy) + 1 ≤ 60000000)
    (hz : ∀ a ∈ A, Rz kr vr a) (hN : A.length ≤ N) (hc : N + 1 ≤ 2 ^ c) (hB : 12 * uB (kr + vr + c) N + 4 * (kr + vr + c) + 8 * (1 + 0 + c) + 10 ≤ 60000000) (hQ : Q (.d (TT (invR A))) S) : (FT n i_inverse [.d (TT A)] S).sat Q := by
  obtain ⟨n, rfl⟩ : ∃ k, n = k + 1 := ⟨n - 1, by omega⟩
  have hm := h.m
  have zA : A.length ≤ sizeLine := Nat.le_trans (show A.length ≤ 1000 by omega) (by decide)
  have zA2 : A.length ≤ 16777216 := by omega
  rw [FT_inverse]
  with_reducible refine run_sat (by simp) ?_
  unfold c_inverse
  simp_all! [List.length_map, zA]
  with_reducible refine rs_cut (fun e S1 => S1 = S ∧ ∃ x2, e = [some (.d (TT A)), some (.d (.int (A.length : Nat))), x2]) ?_ ?_
  · simp!
    refine rank_ok (t := A) (by omega) (.inl rfl) h.len (by omega) (by omega) hy hb ?_
    simp!
    refine br_of (fun q => absurd q ?_) (fun _ => ?_)
    · rw [h.span, unit_len, hm]
      simp
    · simp!
      exact ⟨_, rfl⟩
  intro e S1 hh
  obtain ⟨hS, x2, hE⟩ := hh
  subst hS hE
  simp!
  refine unit_ok (by omega) rfl (by omega) ?_
  simp!
  refine comp_sat (fun j ys S2 => S2 = S1 ∧ ys = (((invR A).take j).map TR).map W.d) ⟨rfl, rfl⟩ ?_ ?_
  · rintro i x ys S2 hx ⟨rfl, rfl⟩
    rw [List.getElem?_map, List.getElem?_map] at hx
    have hi : i < m := by
      by_cases q : i < m
      · exact q
      · rw [List.getElem?_eq_none (by rw [unit_len]; omega)] at hx
        cases hx
    rw [hm, unit_get hi] at hx
    cases hx
    obtain ⟨cs, h1, h2, h3, h4⟩ := h.solved hi
    refine ⟨trivial, _, rfl, ?_⟩
    simp!
    refine solve_ok (kr := kr) (vr := vr) (kb := 1) (vb := 0) (c := c) (N := N) (by omega) (.inl rfl) (.inl rfl) h.len (mkR_len m i) (by omega) (by omega) hz (mkR_rz m i) hN hc hB ?_
    rw [h4]
    refine ⟨rfl, ?_⟩
    rw [take_get h1]
    simp
  · rintro ys S2 ⟨rfl, rfl⟩
    have e : (((unitR A.length).map TR).map W.d).length = (invR A).length := by simp [unit_len, inv_len]
    rw [e, List.take_length]
    refine ⟨trivial, ?_⟩
    have zI : (invR A).length ≤ 16777216 := by rw [inv_len]; exact zA2
    have zI2 : (invR A).length ≤ sizeLine := by rw [inv_len]; exact zA
    simp! [plainL_map, List.length_map, zI, zI2]
    rw [List.take_length]
    exact hQ
end Lw

namespace Lw
open PySem PySem.Spec PyProof.Rows L2 Py
/-! k07: the law's own tables -/
theorem tq_neD (p q : Rat) (S : Sto) : opNeD (.d (TQ p)) (.d (TQ q)) S = .ok (.d (.bl (!decide (p = q)))) S := by
  have := (Lk.pair Lk.int Lk.int).neD (by decide) (a := (p.num, (p.den : Int))) (b := (q.num, (q.den : Int))) (S := S)
  rw [show decide (p = q) = decide ((p.num, (p.den : Int)) = (q.num, (q.den : Int))) by
    rw [Bool.eq_iff_iff, decide_eq_true_eq, decide_eq_true_eq, Prod.mk.injEq]
    exact ⟨fun h => by subst h; exact ⟨rfl, rfl⟩, fun h => Rat.ext h.1 (by have := h.2; omega)⟩]
  exact this
theorem number0_ok {n i : Nat} {o : Ce} {S : Sto} {Q : Py.W → Sto → Prop} (hn : 3 ≤ n) (ho : S[i]? = some o) (hf : Feed o) (h : ∀ q o', Sz 4 q → Feed o' → Q (.d (TQ q)) (S.set i o')) : (FT n i__law_number [.c i, .d (.int 0)] S).sat Q := by
  obtain ⟨n, rfl⟩ : ∃ k, n = k + 1 := ⟨n - 1, by omega⟩
  have hi : i < S.length := (List.getElem?_eq_some_iff.mp ho).1
  have h2 : (2 : Nat) ≤ sizeLine := by decide
  have tk : ∀ o' : Ce, (S.set i o').take S.length = S.set i o' := fun o' => List.take_of_length_le (by simp)
  rw [FT__law_number]
  refine run_sat rfl ?_
  unfold c__law_number
  simp_all!
  refine draw_ok (by omega) ho hf (by decide) (by decide) fun kind o hk0 hk1 hf => ?_
  simp!
  refine rs_cut (fun e S1 => e = [some (.c i), some (.d (.int 0)), some (.d (.int kind)), none] ∧ S1 = S.set i o) ?_ ?_
  · simp!
    refine br_of (fun h1 => ?_) (fun h1 => ?_)
    · simp! [h2]
      rw [tk]
      have := h 0 o (sz_zero.mono (by decide)) hf
      exact this
    · simp!
  rintro e S1 ⟨rfl, rfl⟩
  refine rs_cut (fun e S1 => e = [some (.c i), some (.d (.int 0)), some (.d (.int kind)), none] ∧ S1 = S.set i o) ?_ ?_
  · simp!
    refine br_of (fun h1 => ?_) (fun h1 => ?_)
    · simp!
      refine draw_ok (by omega) (set_get hi) hf (by decide) (by decide) fun r o h0 h1 hf => ?_
      simp! [h2, List.set_set]
      rw [tk, ← tq_int]
      exact h _ o (sz_int (show (r - 4).natAbs < 16 by omega) (by decide)) hf
    · simp!
  rintro e S1 ⟨rfl, rfl⟩
  refine rs_cut (fun e S1 => e = [some (.c i), some (.d (.int 0)), some (.d (.int kind)), none] ∧ S1 = S.set i o) ?_ ?_
  · simp!
    refine br_of (fun h1 => ?_) (fun h1 => ?_)
    · simp!
    · simp!
  rintro e S1 ⟨rfl, rfl⟩
  simp!
  refine draw_ok (by omega) (set_get hi) hf (by decide) (by decide) fun r o h0 h1 hf => ?_
  simp! [List.set_set]
  refine draw_ok (by omega) (set_get hi) hf (by decide) (by decide) fun s o h3 h4 hf => ?_
  simp! [List.set_set]
  have z1 : (r - 9).natAbs < 2 ^ 4 := show (r - 9).natAbs < 16 by omega
  have z2 : (1 + s).natAbs < 2 ^ 4 := show (1 + s).natAbs < 16 by omega
  refine pair_ok (by omega) z1 z2 (by decide) (by omega) ?_
  show Q _ ((S.set i o).take S.length)
  rw [tk]
  exact h _ o (sz_divInt z1 z2 (by omega)) hf
def RowAt (x : Py.W) (S : Sto) (r : List Rat) : Prop := x = .d (LR r) ∨ ∃ m, x = .c m ∧ S[m]? = some (.lst ((r.map TQ).map Py.W.d))
theorem added_ok {n k m : Nat} {x y : Py.W} {r s : List Rat} {c : Rat} {S : Sto} {Q : Py.W → Sto → Prop} (hn : 3 ≤ n) (hx : RowAt x S r) (hy : RowAt y S s) (hr : r.length = m) (hs : s.length = m) (hm : m ≤ 60) (hc : Sz 4 c) (hrz : ∀ q ∈ r, Sz k q) (hsz : ∀ q ∈ s, Sz k q) (hk : k + (4 + k) + 1 ≤ 60000000)
    (h : Q (.d (LR (addR m r c s))) S) : (FT n i__law_added [x, .d (TQ c), y] S).sat Q := by
  have zr : r.length ≤ sizeLine := Nat.le_trans (show r.length ≤ 60 by omega) (by decide)
  have hsm : smallI (r.length : Int) = true := smallI_of (by omega) (by omega)
  have zm : (addR m r c s).length ≤ 16777216 := by rw [addR_len]; omega
  have eA : (List.range m).map (fun j => TQ (vc r j + c * vc s j)) = (addR m r c s).map TQ := by
    unfold addR
    rw [List.map_map]
    rfl
  rcases hx with hx | ⟨a, hx, ha⟩ <;> rcases hy with hy | ⟨b, hy, hb⟩ <;> subst hx hy
  · obtain ⟨n, rfl⟩ : ∃ k, n = k + 1 := ⟨n - 1, by omega⟩
    rw [FT__law_added]
    with_reducible refine run_sat (by simp) ?_
    unfold c__law_added
    simp! [List.length_map, zr, hsm]
    refine comp_each (l := List.range r.length) (mk := fun j => Py.W.d (.int (j : Nat))) (f := fun j => TQ (vc r j + c * vc s j)) (rng_map r.length) ?_ trivial ?_
    · intro j hj
      have hj : j < m := by rw [← hr]; exact List.mem_range.mp hj
      have z1 : Sz k (vc r j) := hrz _ (vc_in (by omega))
      have z2 : Sz k (vc s j) := hsz _ (vc_in (by omega))
      refine ⟨_, rfl, ?_⟩
      simp! [atI_vcq (show j < r.length by omega), atI_vcq (show j < s.length by omega)]
      refine by_ok (k := 4) (l := k) (by omega) hc z2 (by omega) ?_
      simp!
      refine sum_ok (k := k) (l := 4 + k) (by omega) z1 (sz_mul hc z2 (Nat.le_refl _)) (by omega) ?_
      exact ⟨rfl, rfl⟩
    · rw [hr, eA]
      simp! [plainL_map, List.length_map, zm]
      rw [List.take_length]
      exact h
  · obtain ⟨n, rfl⟩ : ∃ k, n = k + 1 := ⟨n - 1, by omega⟩
    rw [FT__law_added]
    with_reducible refine run_sat (by simp) ?_
    unfold c__law_added
    simp! [hb, List.length_map, zr, hsm]
    refine comp_each (l := List.range r.length) (mk := fun j => Py.W.d (.int (j : Nat))) (f := fun j => TQ (vc r j + c * vc s j)) (rng_map r.length) ?_ trivial ?_
    · intro j hj
      have hj : j < m := by rw [← hr]; exact List.mem_range.mp hj
      have z1 : Sz k (vc r j) := hrz _ (vc_in (by omega))
      have z2 : Sz k (vc s j) := hsz _ (vc_in (by omega))
      refine ⟨_, rfl, ?_⟩
      simp! [hb, atI_vcq (show j < r.length by omega), atI_vcq (show j < s.length by omega)]
      refine by_ok (k := 4) (l := k) (by omega) hc z2 (by omega) ?_
      simp!
      refine sum_ok (k := k) (l := 4 + k) (by omega) z1 (sz_mul hc z2 (Nat.le_refl _)) (by omega) ?_
      exact ⟨rfl, rfl⟩
    · rw [hr, eA]
      simp! [plainL_map, List.length_map, zm]
      rw [List.take_length]
      exact h
  · obtain ⟨n, rfl⟩ : ∃ k, n = k + 1 := ⟨n - 1, by omega⟩
    rw [FT__law_added]
    with_reducible refine run_sat (by simp) ?_
    unfold c__law_added
    simp! [ha, List.length_map, zr, hsm]
    refine comp_each (l := List.range r.length) (mk := fun j => Py.W.d (.int (j : Nat))) (f := fun j => TQ (vc r j + c * vc s j)) (rng_map r.length) ?_ trivial ?_
    · intro j hj
      have hj : j < m := by rw [← hr]; exact List.mem_range.mp hj
      have z1 : Sz k (vc r j) := hrz _ (vc_in (by omega))
      have z2 : Sz k (vc s j) := hsz _ (vc_in (by omega))
      refine ⟨_, rfl, ?_⟩
      simp! [ha, atI_vcq (show j < r.length by omega), atI_vcq (show j < s.length by omega)]
      refine by_ok (k := 4) (l := k) (by omega) hc z2 (by omega) ?_
      simp!
      refine sum_ok (k := k) (l := 4 + k) (by omega) z1 (sz_mul hc z2 (Nat.le_refl _)) (by omega) ?_
      exact ⟨rfl, rfl⟩
    · rw [hr, eA]
      simp! [plainL_map, List.length_map, zm]
      rw [List.take_length]
      exact h
  · obtain ⟨n, rfl⟩ : ∃ k, n = k + 1 := ⟨n - 1, by omega⟩
    rw [FT__law_added]
    with_reducible refine run_sat (by simp) ?_
    unfold c__law_added
    simp! [ha, hb, List.length_map, zr, hsm]
    refine comp_each (l := List.range r.length) (mk := fun j => Py.W.d (.int (j : Nat))) (f := fun j => TQ (vc r j + c * vc s j)) (rng_map r.length) ?_ trivial ?_
    · intro j hj
      have hj : j < m := by rw [← hr]; exact List.mem_range.mp hj
      have z1 : Sz k (vc r j) := hrz _ (vc_in (by omega))
      have z2 : Sz k (vc s j) := hsz _ (vc_in (by omega))
      refine ⟨_, rfl, ?_⟩
      simp! [ha, hb, atI_vcq (show j < r.length by omega), atI_vcq (show j < s.length by omega)]
      refine by_ok (k := 4) (l := k) (by omega) hc z2 (by omega) ?_
      simp!
      refine sum_ok (k := k) (l := 4 + k) (by omega) z1 (sz_mul hc z2 (Nat.le_refl _)) (by omega) ?_
      exact ⟨rfl, rfl⟩
    · rw [hr, eA]
      simp! [plainL_map, List.length_map, zm]
      rw [List.take_length]
      exact h
theorem lt_items {a : List (List Rat)} {j : Nat} {x : Py.W} (h : ((a.map LR).map Py.W.d)[j]? = some x) : ∃ r, a[j]? = some r ∧ x = .d (LR r) := by
  rw [List.getElem?_map, List.getElem?_map] at h
  cases q : a[j]? with
  | none => rw [q] at h; cases h
  | some r => rw [q] at h; cases h; exact ⟨r, rfl, rfl⟩
theorem prod_ok {n ka kb w m : Nat} {W : Int} {a b : List (List Rat)} {S : Sto} {Q : Py.W → Sto → Prop} (hn : 3 ≤ n) (hW : W = w) (hw : w ≤ 60) (hm : b.length = m) (hm2 : m ≤ 60) (hal : a.length ≤ 60) (ha : ∀ r ∈ a, r.length = m) (hb : ∀ r ∈ b, r.length = w) (haz : ∀ r ∈ a, ∀ q ∈ r, Sz ka q) (hbz : ∀ r ∈ b, ∀ q ∈ r, Sz kb q) (hk1 : 1 ≤ kb) (hz : 2 + m * (ka + kb + 1) + (ka + kb) ≤ 60000000)
    (hq : Q (.d (LT (prodR w a b))) S) : (FT n i__law_product [.d (LT a), .d (LT b), .d (.int W)] S).sat Q := by
  obtain ⟨n, rfl⟩ : ∃ k, n = k + 1 := ⟨n - 1, by omega⟩
  have h0 : (0 : Nat) ≤ sizeLine := Nat.zero_le _
  have h2 : (2 : Nat) ≤ sizeLine := by decide
  have hs : smallI W = true := smallI_of (by omega) (by omega)
  have hbv : ∀ l ∈ b, ∀ j, Sz kb (vc l j) := fun l m j => vc_mem (hbz l m) (sz_zero.mono hk1) j
  have zP : (prodR w a b).length = a.length := by simp [prodR]
  rw [FT__law_product]
  with_reducible refine run_sat (by simp) ?_
  unfold c__law_product
  simp_all! [h0]
  with_reducible refine rs_cut (fun e S1 => ∃ D x0 x1 x2 x4 x5 x6 x7 x8, S1 = S ++ .lst (((prodR w a b).map LR).map Py.W.d) :: D ∧ e = [x0, x1, x2, some (.c S.length), x4, x5, x6, x7, x8]) ?_ ?_
  · simp!
    refine for_sat (fun j e S1 => ∃ D x0 x4 x5 x6 x7 x8, S1 = S ++ .lst ((((prodR w a b).take j).map LR).map Py.W.d) :: D ∧ e = [x0, some (.d (LT b)), some (.d (.int W)), some (.c S.length), x4, x5, x6, x7, x8]) ⟨[], _, _, _, _, _, _, rfl, rfl⟩ ?_ ?_
    · rintro j x e S1 hx ⟨D, x0, x4, x5, x6, x7, x8, rfl, rfl⟩
      obtain ⟨r, hr, rfl⟩ := lt_items hx
      have hja := (List.getElem?_eq_some_iff.mp hr).1
      have hra := List.mem_of_getElem? hr
      have hrl : r.length = m := ha r hra
      have hrz := haz r hra
      have hT : (prodR w a b)[j]? = some (joinR r b w) := by
        unfold prodR
        rw [List.getElem?_map, hr]
        rfl
      have hsl : smallI (r.length : Int) = true := smallI_of (by omega) (by omega)
      have zr : r.length ≤ sizeLine := Nat.le_trans (show r.length ≤ 60 by omega) (by decide)
      refine ⟨trivial, _, rfl, ?_⟩
      generalize hT0 : S ++ .lst ((((prodR w a b).take j).map LR).map Py.W.d) :: D = T0
      simp_all! [h0]
      with_reducible refine rs_cut (fun e S1 => ∃ x6 x7 x8, S1 = T0 ++ [.lst (((joinR r b w).map TQ).map Py.W.d)] ∧ e = [none, some (.d (LT b)), some (.d (.int W)), some (.c S.length), some (.d (LR r)), some (.c T0.length), x6, x7, x8]) ?_ ?_
      · simp! [hs]
        refine for_sat (fun p e S1 => ∃ x6 x7 x8, S1 = T0 ++ [.lst ((((List.range p).map fun p => cmb r b p).map TQ).map Py.W.d)] ∧ e = [none, some (.d (LT b)), some (.d (.int W)), some (.c S.length), some (.d (LR r)), some (.c T0.length), x6, x7, x8]) ⟨none, none, none, rfl, rfl⟩ ?_ ?_
        · rintro p x e S1 hx ⟨x6, x7, x8, rfl, rfl⟩
          rw [hW] at hx
          obtain ⟨hp, rfl⟩ := rng0 (N := w) rfl hx
          refine ⟨trivial, _, rfl, ?_⟩
          generalize hT1 : T0 ++ [.lst ((((List.range p).map fun p => cmb r b p).map TQ).map Py.W.d)] = T1
          simp_all! [h2]
          with_reducible refine rs_cut (fun e S1 => ∃ x8, S1 = T1 ∧ e = [none, some (.d (LT b)), some (.d (.int W)), some (.c S.length), some (.d (LR r)), some (.c T0.length), some (.d (.int (p : Nat))), some (.d (TQ (cmb r b p))), x8]) ?_ ?_
          · simp! [hsl, List.length_map, zr]
            refine for_sat (fun q e S1 => ∃ x8, S1 = T1 ∧ e = [none, some (.d (LT b)), some (.d (.int W)), some (.c S.length), some (.d (LR r)), some (.c T0.length), some (.d (.int (p : Nat))), some (.d (TQ (cmb (r.take q) b p))), x8]) ⟨none, rfl, ?_⟩ ?_ ?_
            · rw [List.take_zero, cmb_nil]
              rfl
            · rintro q x e S1 hx ⟨x8, rfl, rfl⟩
              obtain ⟨hq', rfl⟩ := rng0 (N := r.length) rfl hx
              have g1 : r[q]? = some r[q] := List.getElem?_eq_getElem hq'
              have g2 : b[q]? = some b[q] := List.getElem?_eq_getElem (by omega)
              have hbw : b[q].length = w := hb _ (List.getElem_mem _)
              have za := hrz _ (List.getElem_mem hq')
              have zb : Sz kb (vc b[q] p) := hbv _ (List.getElem_mem _) p
              have key := cmb_take g1 g2 p
              have zq := cmb_sz hrz hbv p q
              have i1 : atI ((r.map TQ).map Py.W.d) (q : Int) = some (.d (TQ r[q])) := atI_nat (by rw [List.getElem?_map, List.getElem?_map, g1]; rfl)
              have i2 := atI_rows g2
              have i3 := atI_vcq (r := b[q]) (j := p) (by omega)
              generalize r[q] = u at g1 za key i1
              generalize b[q] = bq at g2 hbw zb key i2 i3
              generalize vc bq p = v at zb key i3
              have hmul : (q + 1) * (ka + kb + 1) ≤ m * (ka + kb + 1) := Nat.mul_le_mul_right _ (by omega)
              rw [Nat.succ_mul] at hmul
              refine ⟨trivial, _, rfl, ?_⟩
              simp! [i1, i2, i3]
              refine br_of (fun h1 => ?_) (fun h1 => ?_)
              · simp! [i1, i2, i3]
                refine br_of (fun h3 => ?_) (fun h3 => ?_)
                · simp! [i1, i2, i3]
                  refine by_ok (by omega) za zb (by omega) ?_
                  simp!
                  refine sum_ok (by omega) zq (sz_mul za zb (Nat.le_refl _)) (by omega) ?_
                  simp!
                  rw [key]
                  exact ⟨_, rfl⟩
                · have h3 : v = 0 := by simpa using h3
                  subst h3
                  have e0 : cmb (r.take q) b p + u * 0 = cmb (r.take q) b p := by grind
                  simp!
                  rw [key, e0]
                  exact ⟨_, rfl⟩
              · have h1 : u = 0 := by simpa using h1
                subst h1
                have e0 : cmb (r.take q) b p + 0 * v = cmb (r.take q) b p := by grind
                simp!
                rw [key, e0]
                exact ⟨_, rfl⟩
            · rintro e S1 ⟨x8, rfl, rfl⟩
              rw [rng0_len (N := r.length) rfl, List.take_length]
              exact ⟨trivial, _, rfl, rfl⟩
          rintro e S1 ⟨x8, rfl, rfl⟩
          subst hT1
          have g1 : ∀ c : Ce, (T0 ++ [c])[T0.length]? = some c := fun c => by simp
          have g2 : ∀ c c' : Ce, (T0 ++ [c]).set T0.length c' = T0 ++ [c'] := fun c c' => by simp
          have g3 : p < sizeLine := Nat.lt_of_lt_of_le (show p < 60 by omega) (by decide)
          simp! [g1, g2, List.length_range, List.length_map, g3]
          refine ⟨_, _, _, ?_, rfl⟩
          rw [List.range_succ]
          simp
        · rintro e S1 ⟨x6, x7, x8, rfl, rfl⟩
          rw [rng0_len hW]
          exact ⟨trivial, _, _, _, rfl, rfl⟩
      rintro e S1 ⟨x6, x7, x8, rfl, rfl⟩
      subst hT0
      have gA : ∀ fw c : Ce, ((S ++ fw :: D) ++ [c])[S.length]? = some fw := fun fw c => by simp
      have sA : ∀ fw fw' c : Ce, ((S ++ fw :: D) ++ [c]).set S.length fw' = S ++ fw' :: (D ++ [c]) := fun fw fw' c => by simp
      generalize hfw : Ce.lst ((((prodR w a b).take j).map LR).map Py.W.d) = fw
      have g1 : ∀ c : Ce, ((S ++ fw :: D) ++ [c])[(S ++ fw :: D).length]? = some c := fun c => by simp
      have g2 : ∀ c c' : Ce, ((S ++ fw :: D) ++ [c]).set (S ++ fw :: D).length c' = (S ++ fw :: D) ++ [c'] := fun c c' => by simp
      have g3 : ((prodR w a b).take j).length < sizeLine := by
        rw [List.length_take]
        exact Nat.lt_of_le_of_lt (Nat.min_le_left _ _) (Nat.lt_of_lt_of_le (show j < 60 by omega) (by decide))
      have hfw' : fw = Ce.lst ((((prodR w a b).take j).map LR).map Py.W.d) := hfw.symm
      generalize hn0 : (S ++ fw :: D).length = n0 at g1 g2
      simp! [g1, g2, plainL_map, gA, sA]
      simp only [hfw', gA, sA]
      simp! [g3, gA, sA]
      subst hfw'
      simp! [g3]
      refine ⟨D ++ [.dead], _, _, _, _, _, _, ?_, rfl⟩
      rw [List.take_succ, hT]
      simp
    · rintro e S1 ⟨D, x0, x4, x5, x6, x7, x8, rfl, rfl⟩
      refine ⟨trivial, D, _, _, _, _, _, _, _, _, ?_, rfl⟩
      rw [List.length_map, List.length_map, List.take_of_length_le (by simp [prodR])]
  rintro e S1 ⟨D, x0, x1, x2, x4, x5, x6, x7, x8, rfl, rfl⟩
  have gF : ∀ (c : Ce) (D : Sto), (S ++ c :: D)[S.length]? = some c := fun c D => by simp
  have sF : ∀ (c c' : Ce) (D : Sto), (S ++ c :: D).set S.length c' = S ++ c' :: D := fun c c' D => by simp
  simp! [gF, sF, plainL_map]
  rw [List.take_append_of_le_length (Nat.le_refl _), List.take_length]
  exact hq
theorem pairs_ok {n k w m : Nat} {W : Int} {X : List (List Rat)} {S : Sto} {Q : Py.W → Sto → Prop} (hn : 3 ≤ n) (hW : W = w) (hw : w ≤ 60) (hm : X.length = w) (hX : ∀ r ∈ X, r.length = w) (hz : ∀ r ∈ X, ∀ q ∈ r, Sz k q) (hk : k ≤ 60000000)
    (hq : Q (.d (LT X)) S) : (FT n i__law_pairs [.d (TT X), .d (.int W)] S).sat Q := by
  obtain ⟨n, rfl⟩ : ∃ k, n = k + 1 := ⟨n - 1, by omega⟩
  subst hW
  have h0 : (0 : Nat) ≤ sizeLine := Nat.zero_le _
  have h2 : (2 : Nat) ≤ sizeLine := by decide
  have zX : X.length ≤ sizeLine := Nat.le_trans (show X.length ≤ 60 by omega) (by decide)
  have gF : ∀ (c : Ce) (D : Sto), (S ++ c :: D)[S.length]? = some c := fun c D => by simp
  have sF : ∀ (c c' : Ce) (D : Sto), (S ++ c :: D).set S.length c' = S ++ c' :: D := fun c c' D => by simp
  rw [FT__law_pairs]
  with_reducible refine run_sat (by simp) ?_
  unfold c__law_pairs
  with_reducible refine rs_cut (fun e S1 => S1 = S ∧ ∃ x2 x3 x4 x5, e = [some (.d (TT X)), some (.d (.int (w : Nat))), x2, x3, x4, x5]) ?_ ?_
  · simp! [List.length_map, zX, hm, Bool.not_true]
    exact ⟨_, _, _, _, rfl⟩
  intro e S1 hh
  obtain ⟨hS, x2, x3, x4, x5, hE⟩ := hh
  subst hS hE
  simp_all! [h0]
  have gF : ∀ (c : Ce) (D : Sto), (S1 ++ c :: D)[S1.length]? = some c := fun c D => by simp
  have sF : ∀ (c c' : Ce) (D : Sto), (S1 ++ c :: D).set S1.length c' = S1 ++ c' :: D := fun c c' D => by simp
  with_reducible refine rs_cut (fun e S2 => ∃ D x0 x1 x3 x4 x5, S2 = S1 ++ .lst ((X.map LR).map Py.W.d) :: D ∧ e = [x0, x1, some (.c S1.length), x3, x4, x5]) ?_ ?_
  · simp!
    refine for_sat (fun j e S2 => ∃ D x0 x3 x4 x5, S2 = S1 ++ .lst (((X.take j).map LR).map Py.W.d) :: D ∧ e = [x0, some (.d (.int (w : Nat))), some (.c S1.length), x3, x4, x5]) ⟨[], _, _, _, _, rfl, rfl⟩ ?_ ?_
    · rintro j x e S2 hx ⟨D, x0, x3, x4, x5, rfl, rfl⟩
      obtain ⟨r, hr, rfl⟩ : ∃ r, X[j]? = some r ∧ x = .d (TR r) := by
        rw [List.getElem?_map, List.getElem?_map] at hx
        cases q : X[j]? with
        | none => rw [q] at hx; cases hx
        | some r => rw [q] at hx; cases hx; exact ⟨r, rfl, rfl⟩
      have hja := (List.getElem?_eq_some_iff.mp hr).1
      have hrm := List.mem_of_getElem? hr
      have hrl := hX r hrm
      have hrz := hz r hrm
      have zr : r.length ≤ sizeLine := Nat.le_trans (show r.length ≤ 60 by omega) (by decide)
      refine ⟨trivial, _, rfl, ?_⟩
      generalize hT0 : S1 ++ .lst (((X.take j).map LR).map Py.W.d) :: D = T0
      with_reducible refine rs_cut (fun e S2 => S2 = T0 ∧ ∃ x0 x4 x5, e = [x0, some (.d (.int (w : Nat))), some (.c S1.length), some (.d (TR r)), x4, x5]) ?_ ?_
      · simp! [List.length_map, zr, hrl, Bool.not_true]
        exact ⟨_, _, _, rfl⟩
      intro e S2 hh
      obtain ⟨hS, y0, y4, y5, hE⟩ := hh
      subst hS hE
      simp_all! [h0]
      with_reducible refine rs_cut (fun e S3 => ∃ x0 x3 x5, S3 = S2 ++ [.lst ((r.map TQ).map Py.W.d)] ∧ e = [x0, some (.d (.int (w : Nat))), some (.c S1.length), x3, some (.c S2.length), x5]) ?_ ?_
      · simp!
        refine for_sat (fun p e S3 => ∃ x0 x3 x5, S3 = S2 ++ [.lst (((r.take p).map TQ).map Py.W.d)] ∧ e = [x0, some (.d (.int (w : Nat))), some (.c S1.length), x3, some (.c S2.length), x5]) ⟨_, _, _, rfl, rfl⟩ ?_ ?_
        · rintro p x e S3 hx ⟨x0, x3, x5, rfl, rfl⟩
          obtain ⟨q, hq', rfl⟩ : ∃ q, r[p]? = some q ∧ x = .d (RQ q) := by
            rw [List.getElem?_map, List.getElem?_map] at hx
            cases q : r[p]? with
            | none => rw [q] at hx; cases hx
            | some r => rw [q] at hx; cases hx; exact ⟨r, rfl, rfl⟩
          have hpl := (List.getElem?_eq_some_iff.mp hq').1
          obtain ⟨z1, z2⟩ := hrz q (List.mem_of_getElem? hq')
          have hd : (q.den : Int) ≠ 0 := by have := q.den_pos; omega
          have hd1 : ¬ ((q.den : Int) < 1) := by have := q.den_pos; omega
          refine ⟨trivial, _, rfl, ?_⟩
          generalize hT1 : S2 ++ [Ce.lst (((r.take p).map TQ).map Py.W.d)] = T1
          with_reducible refine rs_cut (fun e S3 => S3 = T1 ∧ ∃ x0 x3, e = [x0, some (.d (.int (w : Nat))), some (.c S1.length), x3, some (.c S2.length), some (.d (RQ q))]) ?_ ?_
          · simp! [SG, beq_self_eq_true, Bool.not_true]
            refine isint_ok (by omega) ?_
            simp! [Bool.not_true]
            refine isint_ok (by omega) ?_
            simp! [Bool.not_true]
            exact ⟨_, _, rfl⟩
          intro e S3 hh
          obtain ⟨hS, y0, y3, hE⟩ := hh
          subst hS hE
          with_reducible refine rs_cut (fun e S4 => S4 = S3 ∧ ∃ x0 x3, e = [x0, some (.d (.int (w : Nat))), some (.c S1.length), x3, some (.c S2.length), some (.d (RQ q))]) ?_ ?_
          · simp! [hd1]
            refine pair_ok (k := k) (by omega) z1 (show ((q.den : Int)).natAbs < 2 ^ k from z2) hk hd ?_
            rw [Rat.num_divInt_den]
            simp! [h2]
            rw [show Py.W.d (.tup [.int q.num, .int (q.den : Int)]) = Py.W.d (TQ q) from rfl, tq_neD]
            simp!
            exact ⟨_, _, rfl⟩
          intro e S4 hh
          obtain ⟨hS, y0, y3, hE⟩ := hh
          subst hS hE
          subst hT1
          have gL : ∀ c : Ce, (S2 ++ [c])[S2.length]? = some c := fun c => by simp
          have sL : ∀ c c' : Ce, (S2 ++ [c]).set S2.length c' = S2 ++ [c'] := fun c c' => by simp
          have zl : (r.take p).length < sizeLine := by
            rw [List.length_take]
            exact Nat.lt_of_le_of_lt (Nat.min_le_left _ _) (Nat.lt_of_lt_of_le (show p < 60 by omega) (by decide))
          rw [List.length_take] at zl
          simp! [gL, sL, List.length_map, List.length_take, zl, h2]
          refine ⟨_, _, _, ?_, rfl⟩
          rw [List.take_succ, hq']
          simp
        · rintro e S3 ⟨x0, x3, x5, rfl, rfl⟩
          rw [List.length_map, List.length_map, List.take_length]
          exact ⟨trivial, _, _, _, rfl, rfl⟩
      intro e S3 hh
      obtain ⟨y0, y3, y5, hS, hE⟩ := hh
      subst hS hE
      subst hT0
      have gA : ∀ fw c : Ce, ((S1 ++ fw :: D) ++ [c])[S1.length]? = some fw := fun fw c => by simp
      have sA : ∀ fw fw' c : Ce, ((S1 ++ fw :: D) ++ [c]).set S1.length fw' = S1 ++ fw' :: (D ++ [c]) := fun fw fw' c => by simp
      generalize hfw : Ce.lst (((X.take j).map LR).map Py.W.d) = fw
      have g1 : ∀ c : Ce, ((S1 ++ fw :: D) ++ [c])[(S1 ++ fw :: D).length]? = some c := fun c => by simp
      have g2 : ∀ c c' : Ce, ((S1 ++ fw :: D) ++ [c]).set (S1 ++ fw :: D).length c' = (S1 ++ fw :: D) ++ [c'] := fun c c' => by simp
      have g3 : (X.take j).length < sizeLine := by
        rw [List.length_take]
        exact Nat.lt_of_le_of_lt (Nat.min_le_left _ _) (Nat.lt_of_lt_of_le (show j < 60 by omega) (by decide))
      have hfw' : fw = Ce.lst (((X.take j).map LR).map Py.W.d) := hfw.symm
      generalize hn0 : (S1 ++ fw :: D).length = n0 at g1 g2
      simp! [g1, g2, plainL_map, gA, sA]
      simp only [hfw', gA, sA]
      simp! [g3, gA, sA]
      subst hfw'
      simp! [g3]
      refine ⟨D ++ [.dead], _, _, _, _, ?_, rfl⟩
      rw [List.take_succ, hr]
      simp
    · rintro e S2 ⟨D, x0, x3, x4, x5, rfl, rfl⟩
      refine ⟨trivial, D, _, _, _, _, _, ?_, rfl⟩
      rw [List.length_map, List.length_map, List.take_length]
  rintro e S2 ⟨D, x0, x1, x3, x4, x5, rfl, rfl⟩
  simp! [gF, sF, plainL_map]
  rw [List.take_append_of_le_length (Nat.le_refl _), List.take_length]
  exact hq
end Lw

namespace Lw
open PySem PySem.Spec PyProof.Rows L2 Py
/-! k07: a dependent row -/
theorem drawN_ok {n i m : Nat} {M : Int} {o : Ce} {S : Sto} {Q : Py.W → Sto → Prop} (hn : 1 ≤ n) (hM : M = m) (ho : S[i]? = some o) (hf : Feed o) (h0 : 0 < m) (h1 : m < 1000000) (h : ∀ (r : Nat) o', r < m → Feed o' → Q (.d (.int (r : Nat))) (S.set i o')) : (FT n i__law_draw [.c i, .d (.int M)] S).sat Q := by
  subst hM
  refine draw_ok hn ho hf (by omega) (by omega) fun r o h2 h3 hf => ?_
  have := h r.toNat o (by omega) hf
  rwa [show ((r.toNat : Nat) : Int) = r by omega] at this
/-- a table over one bottom -/
def RT (k v : Nat) (A : List (List Rat)) : Prop := ∃ d, 0 < d ∧ d < 2 ^ k ∧ ∀ a ∈ A, FrL d (2 ^ v) a
theorem RT.rz {k v : Nat} {A : List (List Rat)} (h : RT k v A) : ∀ a ∈ A, Rz k v a := fun a m => by
  obtain ⟨d, d0, d1, d2⟩ := h
  exact ⟨d, d0, d1, d2 a m⟩
theorem RT.sz {k v : Nat} {A : List (List Rat)} (h : RT k v A) : ∀ a ∈ A, ∀ q ∈ a, Sz (k + v) q := fun a m => rz_sz (h.rz a m)
theorem RT.mono {k k' v v' : Nat} {A : List (List Rat)} (h : RT k v A) (hk : k ≤ k') (hv : v ≤ v') : RT k' v' A := by
  obtain ⟨d, d0, d1, d2⟩ := h
  exact ⟨d, d0, Nat.lt_of_lt_of_le d1 (Nat.pow_le_pow_right (by decide) hk), fun a m q mq => (d2 a m q mq).mono (Nat.pow_le_pow_right (by decide) hv)⟩
theorem fr_add {d e V W w : Nat} {r s : List Rat} {c : Rat} (hr : r.length = w) (hs : s.length = w) (hc : Sz 4 c) (h1 : FrL (d * e) V r) (h2 : FrL d W s) : FrL (d * (e * c.den)) (V + 2 ^ 4 * W) (addR w r c s) :=
  FrL.of_vc fun j => by
    rw [addR_vc hr hs]
    have a1 : Fr (d * (e * c.den)) V (vc r j) := by
      have := (fr_vc h1 j).up c.den
      rwa [Nat.mul_assoc] at this
    have a2 : Fr (d * (e * c.den)) (2 ^ 4 * W) (c * vc s j) := by
      have := ((Fr.of (Nat.le_of_lt hc.1)).mul (fr_vc h2 j)).up e
      rwa [show c.den * d * e = d * (e * c.den) by rw [Nat.mul_comm c.den d, Nat.mul_assoc, Nat.mul_comm c.den e]] at this
    exact a1.add a2
theorem join_set {m k : Nat} {A : List (List Rat)} {cs : List Rat} {c : Rat} {a : List Rat} (hA : ∀ a ∈ A, a.length = m) (hk : A[k]? = some a) (h0 : cs[k]? = some 0) : addR m (joinR cs A m) c a = joinR (cs.set k c) A m := by
  have la := hA a (List.mem_of_getElem? hk)
  refine vc_ext (by rw [addR_len, joinR_len]) fun j => ?_
  rw [addR_vc (joinR_len _ _ _) la, joinR_vc hA, joinR_vc hA, cmb_setc h0 hk]
  grind
theorem zeros_join {m n : Nat} {A : List (List Rat)} : joinR (List.replicate n 0) A m = List.replicate m 0 := by
  refine vc_ext (by rw [joinR_len]; simp) fun j => ?_
  rw [zr_vc]
  by_cases hj : j < m
  · rw [vc_get (by rw [joinR_len]; exact hj)]
    simp [joinR, cmb_zeros]
  · exact vc_of (by rw [joinR_len]; omega)
theorem dependent_ok {n i m kd v : Nat} {A : List (List Rat)} {o : Ce} {S : Sto} {Q : Py.W → Sto → Prop} (hn : 5 ≤ n) (hm : A.length = m) (hm0 : 0 < m) (hm6 : m ≤ 6) (hA : ∀ a ∈ A, a.length = m) (hR : RT kd v A) (hkd : kd + v ≤ 10000000) (ho : S[i]? = some o) (hf : Feed o)
    (h : ∀ (cs : List Rat) (at' : Nat) o', cs.length = m → cs[at']? = some 0 → RT (kd + 25) (v + 7) (A.set at' (joinR cs A m)) → Feed o' → Q (.d (LT (A.set at' (joinR cs A m)))) (S.set i o')) : (FT n i__law_dependent [.c i, .d (LT A)] S).sat Q := by
  obtain ⟨n, rfl⟩ : ∃ k, n = k + 1 := ⟨n - 1, by omega⟩
  have hi : i < S.length := (List.getElem?_eq_some_iff.mp ho).1
  have z1 : (1 : Nat) ≤ sizeLine := by decide
  have z2 : (2 : Nat) ≤ sizeLine := by decide
  have zA : A.length ≤ sizeLine := Nat.le_trans (show A.length ≤ 6 by omega) (by decide)
  have zm : m ≤ 16777216 := by omega
  have hsm : smallI (A.length : Int) = true := smallI_of (by omega) (by omega)
  have tk : ∀ o' : Ce, (S.set i o').take S.length = S.set i o' := fun o' => List.take_of_length_le (by simp)
  have hAz : ∀ a ∈ A, ∀ q ∈ a, Sz (kd + v + 40) q := fun a ma q mq => (hR.sz a ma q mq).mono (by omega)
  obtain ⟨d, d0, d1, d2⟩ := hR
  rw [FT__law_dependent]
  with_reducible refine run_sat (by simp) ?_
  unfold c__law_dependent
  simp_all! [List.length_map, zA]
  simp_all!
  refine drawN_ok (by omega) rfl ho hf (by omega) (by omega) fun a o ha hf => ?_
  rw [hm] at ha
  simp!
  with_reducible refine rs_cut (fun e S1 => S1 = S.set i o ∧ ∃ x5, e = [some (.c i), some (.d (LT A)), some (.d (.int (A.length : Nat))), some (.d (.int (a : Nat))), some (.d (LR (List.replicate m 0))), x5]) ?_ ?_
  · simp! [hsm]
    refine comp_each (l := List.range A.length) (mk := fun j => Py.W.d (.int (j : Nat))) (f := fun _ => TQ 0) (rng_map A.length) ?_ trivial ?_
    · intro k hk
      refine ⟨_, rfl, ?_⟩
      simp! [z2]
      rfl
    · simp! [plainL_map, zm, hm, List.length_range]
      have eZ : (List.range m).map (fun _ => TQ 0) = (List.replicate m (0 : Rat)).map TQ := by
        rw [List.map_replicate, List.eq_replicate_iff]
        simp
      rw [eZ]
      exact ⟨_, rfl⟩
  intro e S1 hh
  obtain ⟨hS, x5, hE⟩ := hh
  subst hS hE
  with_reducible refine rs_cut (fun e S1 => ∃ (cs : List Rat) (o : Ce) (x0 x2 x5 : Option Py.W), e = [x0, some (.d (LT A)), x2, some (.d (.int (a : Nat))), some (.d (LR (joinR cs A m))), x5] ∧ S1 = S.set i o ∧ Feed o ∧ cs.length = m ∧ cs[a]? = some 0 ∧ ∃ e', 0 < e' ∧ e' < 2 ^ (1 + 4 * m) ∧ FrL (d * e') (m * (2 ^ 4 * 2 ^ v)) (joinR cs A m)) ?_ ?_
  · simp! [hsm]
    refine for_sat (fun k e S1 => ∃ (cs : List Rat) (o : Ce) (x2 x5 : Option Py.W), e = [some (.c i), some (.d (LT A)), x2, some (.d (.int (a : Nat))), some (.d (LR (joinR cs A m))), x5] ∧ S1 = S.set i o ∧ Feed o ∧ cs.length = m ∧ cs[a]? = some 0 ∧ (∀ t, k ≤ t → t < m → cs[t]? = some 0) ∧ ∃ e', 0 < e' ∧ e' < 2 ^ (1 + 4 * k) ∧ FrL (d * e') (k * (2 ^ 4 * 2 ^ v)) (joinR cs A m)) ?_ ?_ ?_
    · refine ⟨List.replicate m 0, o, _, _, by rw [zeros_join], rfl, hf, by simp, ?_, fun t _ ht => ?_, 1, by decide, by decide, ?_⟩
      · rw [List.getElem?_replicate, if_pos ha]
      · rw [List.getElem?_replicate, if_pos ht]
      · rw [zeros_join]
        intro q mq
        rw [(List.mem_replicate.mp mq).2]
        exact Fr.zero
    · rintro k x e S1 hx ⟨cs, o, x2, x5, rfl, rfl, hf, c1, c2, c3, e', e0, e1, e2⟩
      obtain ⟨hk, rfl⟩ := rng0 (N := A.length) rfl hx
      have hk' : A[k]? = some A[k] := List.getElem?_eq_getElem hk
      have hkm : k < m := by omega
      have lk := hA _ (List.getElem_mem hk)
      refine ⟨trivial, _, rfl, ?_⟩
      simp!
      refine br_of (fun h1 => ?_) (fun h1 => ?_)
      · have hak : a ≠ k := by
          rintro rfl
          simp at h1
        simp!
        refine number0_ok (by omega) (set_get hi) hf fun c o hc hf => ?_
        simp! [List.set_set, atI_rows hk']
        have jz : ∀ q ∈ joinR cs A m, Sz (kd + v + 40) q := by
          have f1 : FrL (d * e') (2 ^ (v + 7)) (joinR cs A m) := fun q mq => (e2 q mq).mono (by
            rw [show v + 7 = 7 + v by omega, Nat.pow_add, ← Nat.mul_assoc]
            exact Nat.mul_le_mul_right _ (by omega))
          have f2 : d * e' < 2 ^ (kd + 25) := by
            have := Nat.mul_lt_mul'' d1 e1
            rw [← Nat.pow_add] at this
            exact Nat.lt_of_lt_of_le this (Nat.pow_le_pow_right (by decide) (by omega))
          exact fun q mq => (f1.szs (Nat.mul_pos d0 e0) f2 q mq).mono (by omega)
        refine added_ok (k := kd + v + 40) (m := m) (by omega) (.inl rfl) (.inl rfl) (joinR_len _ _ _) lk (by omega) hc jz (hAz _ (List.getElem_mem hk)) (by omega) ?_
        simp!
        rw [join_set hA hk' (c3 k (Nat.le_refl _) hkm)]
        refine ⟨cs.set k c, o, _, _, rfl, rfl, hf, by simp [c1], ?_, fun t t1 t2 => ?_, e' * c.den, Nat.mul_pos e0 c.den_pos, ?_, ?_⟩
        · rw [List.getElem?_set_ne (Ne.symm hak)]
          exact c2
        · rw [List.getElem?_set_ne (by omega)]
          exact c3 t (by omega) t2
        · have := Nat.mul_lt_mul'' e1 hc.2
          rw [← Nat.pow_add] at this
          exact Nat.lt_of_lt_of_le this (Nat.pow_le_pow_right (by decide) (by omega))
        · rw [← join_set hA hk' (c3 k (Nat.le_refl _) hkm)]
          have := fr_add (joinR_len cs A m) lk hc e2 (d2 _ (List.getElem_mem hk))
          rw [Nat.succ_mul]
          exact this
      · simp!
        refine ⟨cs, o, _, _, rfl, rfl, hf, c1, c2, fun t t1 t2 => c3 t (by omega) t2, e', e0, Nat.lt_of_lt_of_le e1 (Nat.pow_le_pow_right (by decide) (by omega)), fun q mq => (e2 q mq).mono (Nat.mul_le_mul_right _ (by omega))⟩
    · rintro e S1 ⟨cs, o, x2, x5, rfl, rfl, hf, c1, c2, c3, e', e0, e1, e2⟩
      rw [rng0_len (N := A.length) rfl, hm] at e1 e2
      exact ⟨trivial, cs, o, _, _, _, rfl, rfl, hf, c1, c2, e', e0, e1, e2⟩
  intro e S1 hh
  obtain ⟨cs, o, x0, x2, x5, hE, hS, hf, c1, c2, e', e0, e1, e2⟩ := hh
  subst hE hS
  have ca : cutL (A.map LR) (some ((a : Int) + 1)) none = (A.map LR).drop (a + 1) := by
    rw [show (a : Int) + 1 = ((a + 1 : Nat) : Int) by omega]
    exact cutL_drop _ _
  have cb : cutL (A.map LR) none (some (a : Int)) = (A.map LR).take a := by
    unfold cutL
    rw [HT.sIx_none, HT.sIx_nat, List.drop_zero, Nat.sub_zero, ← List.take_eq_take_min]
  have zt : min a A.length + 1 ≤ sizeLine := Nat.le_trans (show _ ≤ 10 by omega) (by decide)
  have zt2 : min a A.length + 1 + (A.length - (a + 1)) ≤ sizeLine := Nat.le_trans (show _ ≤ 20 by omega) (by decide)
  have eF : D.lst (((A.map LR).take a ++ [LR (joinR cs A m)]) ++ (A.map LR).drop (a + 1)) = LT (A.set a (joinR cs A m)) := by
    unfold LT
    rw [List.set_eq_take_append_cons_drop, if_pos (by omega), List.map_append, List.map_cons, List.map_take, List.map_drop]
    simp
  have hfin : RT (kd + 25) (v + 7) (A.set a (joinR cs A m)) := by
    refine ⟨d * e', Nat.mul_pos d0 e0, ?_, fun x mx => ?_⟩
    · have := Nat.mul_lt_mul'' d1 e1
      rw [← Nat.pow_add] at this
      exact Nat.lt_of_lt_of_le this (Nat.pow_le_pow_right (by decide) (by omega))
    · rcases List.mem_or_eq_of_mem_set mx with mx | rfl
      · exact fun q mq => ((d2 x mx q mq).up e').mono (Nat.pow_le_pow_right (by decide) (by omega))
      · exact fun q mq => (e2 q mq).mono (by
            rw [show v + 7 = 7 + v by omega, Nat.pow_add, ← Nat.mul_assoc]
            exact Nat.mul_le_mul_right _ (by omega))
  simp! [ca, cb, List.length_map, List.length_take, List.length_append, List.length_drop, zt, zt2, z1]
  rw [eF, tk]
  exact h cs a o c1 c2 hfin hf
end Lw

namespace Lw
open PySem PySem.Spec PyProof.Rows L2 Py
/-! k07: a square table -/
abbrev rowC (r : List Rat) : Ce := .lst ((r.map TQ).map Py.W.d)
/-- what the outer list holds -/
structure Rel (L : Nat) (R : List (List Rat)) (xs : List Py.W) (A : List (List Rat)) : Prop where
  len : xs.length = A.length
  el : ∀ (k : Nat) (x : Py.W) (a : List Rat), xs[k]? = some x → A[k]? = some a → x = .d (LR a) ∨ ∃ t, x = .c (L + t) ∧ R[t]? = some a
  nd : ∀ (k k' t : Nat), xs[k]? = some (.c t) → xs[k']? = some (.c t) → k = k'
theorem frzs_ok {lo out : Nat} : ∀ {xs : List Py.W} {A : List (List Rat)} {U : Sto}, xs.length = A.length → (∀ (k : Nat) (x : Py.W) (a : List Rat), xs[k]? = some x → A[k]? = some a → x = .d (LR a) ∨ ∃ j, x = .c j ∧ U[j]? = some (rowC a) ∧ lo ≤ j ∧ j ≠ out) → (∀ (k k' t : Nat), xs[k]? = some (.c t) → xs[k']? = some (.c t) → k = k') →
    ∃ U', frzs xs U = some (A.map LR, U') ∧ U'[out]? = U[out]? ∧ U'.take lo = U.take lo
  | [], [], U, _, _, _ => ⟨U, rfl, rfl, rfl⟩
  | [], _ :: _, _, h, _, _ => by simp at h
  | _ :: _, [], _, h, _, _ => by simp at h
  | x :: xs, a :: A, U, h, hel, hnd => by
    have hl : xs.length = A.length := by simpa using h
    have nd' : ∀ (k k' t : Nat), xs[k]? = some (.c t) → xs[k']? = some (.c t) → k = k' := fun k k' t e1 e2 => by
      have := hnd (k + 1) (k' + 1) t (by simpa using e1) (by simpa using e2)
      omega
    rcases hel 0 x a rfl rfl with rfl | ⟨j, rfl, hj, hlo, hne⟩
    · obtain ⟨U', h1, h2, h3⟩ := frzs_ok (lo := lo) (out := out) (U := U) hl (fun k y b e1 e2 => hel (k + 1) y b (by simpa using e1) (by simpa using e2)) nd'
      refine ⟨U', ?_, h2, h3⟩
      unfold frzs
      rw [h1]
      rfl
    · obtain ⟨U', h1, h2, h3⟩ := frzs_ok (lo := lo) (out := out) (U := U.set j .dead) hl (fun k y b e1 e2 => by
        rcases hel (k + 1) y b (by simpa using e1) (by simpa using e2) with q | ⟨j', q1, q2, q3, q4⟩
        · exact .inl q
        · refine .inr ⟨j', q1, ?_, q3, q4⟩
          have hjj : j ≠ j' := by
            rintro rfl
            have := hnd 0 (k + 1) j rfl (by rw [List.getElem?_cons_succ, e1, q1])
            omega
          rw [List.getElem?_set_ne hjj]
          exact q2) nd'
      refine ⟨U', ?_, ?_, ?_⟩
      · unfold frzs
        rw [hj]
        show (match plainL ((a.map TQ).map Py.W.d) with | some ys => _ | none => none) = _
        rw [plainL_map]
        show (match frzs xs (U.set j .dead) with | some (xs, S') => some (D.lst (a.map TQ) :: xs, S') | none => none) = _
        rw [h1]
        rfl
      · rw [h2, List.getElem?_set_ne hne]
      · rw [h3, List.take_set_of_le hlo]
theorem Rel.frz {L : Nat} {T : Sto} {R : List (List Rat)} {xs : List Py.W} {A : List (List Rat)} (hL : T.length = L) (h : Rel L R xs A) : ∃ U, frz2 (.c (L + R.length)) (T ++ (R.map rowC ++ [.lst xs])) = .ok (.d (LT A)) U ∧ U.take L = T := by
  have g0 : (T ++ (R.map rowC ++ [.lst xs]))[L + R.length]? = some (.lst xs) := by
    rw [List.getElem?_append_right (by omega), List.getElem?_append_right (by simp; omega)]
    simp [hL]
  have gk : ∀ (t : Nat) (r : List Rat), R[t]? = some r → (T ++ (R.map rowC ++ [.lst xs]))[L + t]? = some (rowC r) := fun t r e => by
    have := (List.getElem?_eq_some_iff.mp e).1
    rw [List.getElem?_append_right (by omega), List.getElem?_append_left (by simp; omega), show L + t - T.length = t by omega, List.getElem?_map, e]
    rfl
  obtain ⟨U, h1, h2, h3⟩ := frzs_ok (lo := L) (out := L + R.length) (U := T ++ (R.map rowC ++ [.lst xs])) h.len (fun k x a e1 e2 => by
    rcases h.el k x a e1 e2 with q | ⟨t, q1, q2⟩
    · exact .inl q
    · have := (List.getElem?_eq_some_iff.mp q2).1
      exact .inr ⟨L + t, q1, gk t a q2, by omega, by omega⟩) h.nd
  refine ⟨U.set (L + R.length) .dead, ?_, ?_⟩
  · unfold frz2
    dsimp only
    rw [g0]
    dsimp only
    rw [h1]
    dsimp only
    rw [h2, g0]
  · rw [List.take_set_of_le (by omega), h3, List.take_append_of_le_length (by omega), List.take_of_length_le (by omega)]
theorem Rel.set {L one : Nat} {R : List (List Rat)} {xs : List Py.W} {A : List (List Rat)} {r : List Rat} (h : Rel L R xs A) : Rel L R (xs.set one (.d (LR r))) (A.set one r) := by
  refine ⟨by simp [h.len], fun k x a e1 e2 => ?_, fun k k' t e1 e2 => ?_⟩
  · rw [List.getElem?_set] at e1 e2
    by_cases q : one = k
    · subst q
      rw [if_pos rfl] at e1 e2
      split at e1
      · split at e2
        · cases e1; cases e2; exact .inl rfl
        · cases e2
      · cases e1
    · rw [if_neg q] at e1 e2
      exact h.el k x a e1 e2
  · have aux : ∀ k : Nat, (xs.set one (Py.W.d (LR r)))[k]? = some (Py.W.c t) → xs[k]? = some (Py.W.c t) := fun k e => by
      rw [List.getElem?_set] at e
      split at e
      · split at e <;> cases e
      · exact e
    exact h.nd k k' t (aux k e1) (aux k' e2)
theorem get_swap {α : Type} {xs : List α} {one two : Nat} {x y : α} (h1 : xs[one]? = some x) (h2 : xs[two]? = some y) (hne : one ≠ two) (k : Nat) : ((xs.set one y).set two x)[k]? = xs[if k = one then two else if k = two then one else k]? := by
  have i1 := (List.getElem?_eq_some_iff.mp h1).1
  have i2 := (List.getElem?_eq_some_iff.mp h2).1
  by_cases q2 : k = two
  · subst q2
    rw [List.getElem?_set_self (by simpa using i2), if_neg (Ne.symm hne), if_pos rfl, h1]
  · rw [List.getElem?_set_ne (Ne.symm q2)]
    by_cases q1 : k = one
    · subst q1
      rw [List.getElem?_set_self i1, if_pos rfl, h2]
    · rw [List.getElem?_set_ne (Ne.symm q1), if_neg q1, if_neg q2]
theorem Rel.swap {L one two : Nat} {R : List (List Rat)} {xs : List Py.W} {A : List (List Rat)} {x y : Py.W} {a b : List Rat} (h : Rel L R xs A) (hx : xs[one]? = some x) (hy : xs[two]? = some y) (ha : A[one]? = some a) (hb : A[two]? = some b) (hne : one ≠ two) : Rel L R ((xs.set one y).set two x) ((A.set one b).set two a) := by
  refine ⟨by simp [h.len], fun k u c e1 e2 => ?_, fun k k' t e1 e2 => ?_⟩
  · rw [get_swap hx hy hne] at e1
    rw [get_swap ha hb hne] at e2
    exact h.el _ u c e1 e2
  · rw [get_swap hx hy hne] at e1 e2
    have := h.nd _ _ t e1 e2
    split at this <;> split at this <;> (try split at this) <;> (try split at this) <;> omega
end Lw

namespace Lw
open PySem PySem.Spec PyProof.Rows L2 Py
/-! k07: a square table, walked -/
abbrev refsW (L m : Nat) : List Py.W := (List.range m).map fun k => Py.W.c (L + k)
theorem refs_rel {L m : Nat} {R : List (List Rat)} (h : R.length = m) : Rel L R (refsW L m) R := by
  have g : ∀ (k : Nat) (x : Py.W), (refsW L m)[k]? = some x → k < m ∧ x = .c (L + k) := fun k x e => by
    rw [List.getElem?_map] at e
    by_cases hk : k < m
    · rw [List.getElem?_range hk] at e
      cases e
      exact ⟨hk, rfl⟩
    · rw [List.getElem?_eq_none (by simpa using hk)] at e
      cases e
  refine ⟨by simp [h], fun k x a e1 e2 => ?_, fun k k' t e1 e2 => ?_⟩
  · obtain ⟨hk, rfl⟩ := g k x e1
    exact .inr ⟨k, rfl, e2⟩
  · have h1 := (g k _ e1).2
    have h2 := (g k' _ e2).2
    cases h1
    injection h2 with h2
    omega
theorem square_ok {n i v m : Nat} {V M : Int} {o : Ce} {S : Sto} {Q : Py.W → Sto → Prop} (hn : 6 ≤ n) (hM : M = m) (hm6 : m ≤ 6) (hV : V = v) (hv : v ≤ 4) (ho : S[i]? = some o) (hf : Feed o)
    (h : ∀ A o', Full m A → RT 2461 127 A → Feed o' → Q (.d (LT A)) (S.set i o')) : (FT n i__law_square [.c i, .d (.int M), .d (.int V)] S).sat Q := by
  obtain ⟨n, rfl⟩ : ∃ k, n = k + 1 := ⟨n - 1, by omega⟩
  subst hM
  have hi : i < S.length := (List.getElem?_eq_some_iff.mp ho).1
  have z2 : (2 : Nat) ≤ sizeLine := by decide
  have hsm : smallI (m : Int) = true := smallI_of (by omega) (by omega)
  have zm : m ≤ 16777216 := by omega
  have g1 : ∀ (o : Ce) (X : Sto), (S.set i o ++ X)[i]? = some o := fun o X => by
    rw [List.getElem?_append_left (by simpa using hi)]
    exact set_get hi
  have g2 : ∀ (o o2 : Ce) (X : Sto), (S.set i o ++ X).set i o2 = S.set i o2 ++ X := fun o o2 X => by
    rw [List.set_append_left _ _ (by simpa using hi), List.set_set]
  have g3 : ∀ (o c : Ce) (R : List (List Rat)), R.length = m → (S.set i o ++ (R.map rowC ++ [c]))[S.length + m]? = some c := fun o c R hR => by
    rw [List.getElem?_append_right (by simp), List.getElem?_append_right (by simp; omega)]
    simp [hR]
  have g4 : ∀ (o c c2 : Ce) (R : List (List Rat)), R.length = m → (S.set i o ++ (R.map rowC ++ [c])).set (S.length + m) c2 = S.set i o ++ (R.map rowC ++ [c2]) := fun o c c2 R hR => by
    rw [List.set_append_right _ _ (by simp), List.set_append_right _ _ (by simp; omega)]
    simp [hR]
  have g5 : ∀ (o c : Ce) (R : List (List Rat)) (t : Nat) (r : List Rat), R[t]? = some r → (S.set i o ++ (R.map rowC ++ [c]))[S.length + t]? = some (rowC r) := fun o c R t r e => by
    have := (List.getElem?_eq_some_iff.mp e).1
    rw [List.getElem?_append_right (by simp), List.getElem?_append_left (by simp; omega), List.length_set, show S.length + t - S.length = t by omega, List.getElem?_map, e]
    rfl
  have g6 : ∀ (o c : Ce) (R : List (List Rat)) (t : Nat) (r : List Rat), t < R.length → (S.set i o ++ (R.map rowC ++ [c])).set (S.length + t) (rowC r) = S.set i o ++ ((R.set t r).map rowC ++ [c]) := fun o c R t r e => by
    rw [List.set_append_right _ _ (by simp), List.length_set, show S.length + t - S.length = t by omega, List.set_append_left _ _ (by simpa using e), List.map_set]
  rw [FT__law_square]
  with_reducible refine run_sat (by simp) ?_
  unfold c__law_square
  with_reducible refine rs_cut (fun e S1 => ∃ x4 x5 x6 x7 x8, e = [some (.c i), some (.d (.int (m : Nat))), some (.d (.int V)), some (.c (S.length + m)), x4, x5, x6, x7, x8] ∧ S1 = S.set i o ++ ((List.replicate m (List.replicate m (0 : Rat))).map rowC ++ [.lst (refsW S.length m)])) ?_ ?_
  · simp! [hsm]
    refine comp_sat (fun j ys S1 => S1 = S.set i o ++ (List.replicate j (List.replicate m (0 : Rat))).map rowC ∧ ys = refsW S.length j) ⟨by rw [set_same ho]; simp, rfl⟩ ?_ ?_
    · rintro j x ys S1 hx ⟨rfl, rfl⟩
      obtain ⟨hj, rfl⟩ := rng0 (N := m) rfl hx
      refine ⟨trivial, _, rfl, ?_⟩
      simp! [hsm]
      refine comp_each (l := List.range m) (mk := fun j => Py.W.d (.int (j : Nat))) (f := fun _ => TQ 0) (rng_map m) ?_ trivial ?_
      · intro k hk
        refine ⟨_, rfl, ?_⟩
        simp! [z2]
        rfl
      · simp! [plainL_map, zm, List.length_range]
        refine ⟨?_, ?_⟩
        · have : (List.range m).map (fun _ => TQ 0) = (List.replicate m (0 : Rat)).map TQ := by
            rw [List.map_replicate, List.eq_replicate_iff]
            simp
          rw [this, List.append_assoc]
          have e : (List.replicate j (List.replicate m (0 : Rat))).map rowC ++ [rowC (List.replicate m 0)] = rowC (List.replicate m 0) :: (List.replicate j (List.replicate m (0 : Rat))).map rowC := by
            rw [List.map_replicate, ← List.replicate_succ', List.replicate_succ]
          rw [e]
        · simp [refsW, List.range_succ]
    · rintro ys S1 ⟨rfl, rfl⟩
      rw [rng0_len (N := m) rfl]
      refine ⟨trivial, ?_⟩
      simp! [plainL_map, zm, List.length_map, List.length_range, List.length_replicate]
      exact ⟨_, _, _, _, _, rfl, by simp⟩
  intro e S1 hh
  obtain ⟨x4, x5, x6, x7, x8, hE, hS⟩ := hh
  subst hE hS
  -- the diagonal
  with_reducible refine rs_cut (fun e S1 => ∃ (R : List (List Rat)) (o : Ce) (x4 x5 x6 x7 x8 : Option Py.W), e = [some (.c i), some (.d (.int (m : Nat))), some (.d (.int V)), some (.c (S.length + m)), x4, x5, x6, x7, x8] ∧ S1 = S.set i o ++ (R.map rowC ++ [.lst (refsW S.length m)]) ∧ R.length = m ∧ Feed o ∧ (∀ (t : Nat) (r : List Rat), R[t]? = some r → ∃ c, c ≠ 0 ∧ Sz 67 c ∧ r = (List.replicate m 0).set t c)) ?_ ?_
  · simp! [hsm]
    refine for_sat (fun k e S1 => ∃ (R : List (List Rat)) (o : Ce) (x4 x5 x6 x7 x8 : Option Py.W), e = [some (.c i), some (.d (.int (m : Nat))), some (.d (.int V)), some (.c (S.length + m)), x4, x5, x6, x7, x8] ∧ S1 = S.set i o ++ (R.map rowC ++ [.lst (refsW S.length m)]) ∧ R.length = m ∧ Feed o ∧ (∀ (t : Nat) (r : List Rat), R[t]? = some r → (t < k → ∃ c, c ≠ 0 ∧ Sz 67 c ∧ r = (List.replicate m 0).set t c) ∧ (k ≤ t → r = List.replicate m 0))) ?_ ?_ ?_
    · refine ⟨_, o, _, _, _, _, _, rfl, rfl, by simp, hf, fun t r e => ⟨fun h => absurd h (by omega), fun _ => ?_⟩⟩
      exact (List.mem_replicate.mp (List.mem_of_getElem? e)).2
    · rintro k x e S1 hx ⟨R, o, x4, x5, x6, x7, x8, rfl, rfl, hRl, hf, hR⟩
      obtain ⟨hk, rfl⟩ := rng0 (N := m) rfl hx
      have hRk : R[k]? = some R[k] := List.getElem?_eq_getElem (by omega)
      have hRz := (hR k _ hRk).2 (Nat.le_refl _)
      have hkl : k < R[k].length := by rw [hRz]; simpa using hk
      have hix : atI (refsW S.length m) (k : Int) = some (.c (S.length + k)) := atI_nat (by rw [List.getElem?_map, List.getElem?_range hk]; rfl)
      refine ⟨trivial, _, rfl, ?_⟩
      simp!
      refine other_ok (v := v) (by omega) hV hv (g1 _ _) hf fun q o hq h0 hf => ?_
      rw [g2]
      have e7 : (((R[k]).map TQ).map Py.W.d).set k (.d (TQ q)) = ((R[k].set k q).map TQ).map Py.W.d := by rw [List.map_set, List.map_set]
      have g7 := g6 o (.lst (refsW S.length m)) R k (R[k].set k q) (by omega)
      unfold rowC at g7
      simp! [g3 _ _ R hRl, hix, g5 _ _ R k _ hRk, rowC, List.length_map, ixN_nat hkl, e7]
      refine ⟨R.set k (R[k].set k q), o, _, _, _, _, _, rfl, g6 o _ R k _ (by omega), by simp [hRl], hf, fun t r e => ?_⟩
      rw [List.getElem?_set] at e
      split at e
      · rename_i hkt
        subst hkt
        split at e
        · cases e
          exact ⟨fun _ => ⟨q, h0, hq, by rw [hRz]⟩, fun h => absurd h (by omega)⟩
        · cases e
      · obtain ⟨q1, q2⟩ := hR t r e
        exact ⟨fun h => q1 (by omega), fun h => q2 (by omega)⟩
    · rintro e S1 ⟨R, o, x4, x5, x6, x7, x8, rfl, rfl, hRl, hf, hR⟩
      rw [rng0_len (N := m) rfl] at hR
      exact ⟨trivial, R, o, _, _, _, _, _, rfl, rfl, hRl, hf, fun t r e => (hR t r e).1 (by rw [← hRl]; exact (List.getElem?_eq_some_iff.mp e).1)⟩
  intro e S1 hh
  obtain ⟨R, o, x4, x5, x6, x7, x8, hE, hS, hRl, hf, hR⟩ := hh
  subst hE hS
  have hfull : Full m R := full_diag hRl fun t r e => by
    obtain ⟨c, c0, _, c2⟩ := hR t r e
    exact ⟨c, c0, c2⟩
  have hRT : RT 2413 67 R := by
    obtain ⟨d, d0, d1, d2⟩ := tz_of_sz (k := 67) (t := R) fun r mr q mq => by
      obtain ⟨t, ht, rfl⟩ := List.getElem_of_mem mr
      obtain ⟨c, _, c1, c2⟩ := hR t _ (List.getElem?_eq_getElem ht)
      rw [c2] at mq
      rcases List.mem_or_eq_of_mem_set mq with mq | rfl
      · rw [(List.mem_replicate.mp mq).2]
        exact sz_zero.mono (by omega)
      · exact c1
    refine ⟨d, d0, Nat.lt_of_lt_of_le d1 (Nat.pow_le_pow_right (by decide) ?_), d2⟩
    rw [flat_len hfull.len, hRl]
    have := Nat.mul_le_mul hm6 hm6
    omega
  have hrel := refs_rel (L := S.length) hRl
  clear hR
  have eL : ∀ o : Ce, (S.set i o).length = S.length := fun o => by simp
  with_reducible refine rs_cut (fun e S1 => ∃ x4 x5 x6 x7 x8, e = [some (.c i), some (.d (.int (m : Nat))), some (.d (.int V)), some (.c (S.length + m)), x4, x5, x6, x7, x8] ∧ S1 = S.set i o ++ (R.map rowC ++ [.lst (refsW S.length m)]) ∧ 2 ≤ m) ?_ ?_
  · simp!
    refine br_of (fun h1 => ?_) (fun h1 => ?_)
    · obtain ⟨U, u1, u2⟩ := hrel.frz (T := S.set i o) (eL o)
      rw [hRl] at u1
      simp! [u1]
      rw [u2]
      exact h R o hfull (hRT.mono (by omega) (by omega)) hf
    · simp!
      exact ⟨_, _, _, _, _, rfl, by omega⟩
  intro e S1 hh
  obtain ⟨x4, x5, x6, x7, x8, hE, hS, hm2⟩ := hh
  subst hE hS
  -- the steps
  with_reducible refine rs_cut (fun e S1 => ∃ (A : List (List Rat)) (xs : List Py.W) (o : Ce) (x0 x1 x2 x4 x5 x6 x7 x8 : Option Py.W), e = [x0, x1, x2, some (.c (S.length + m)), x4, x5, x6, x7, x8] ∧ S1 = S.set i o ++ (R.map rowC ++ [.lst xs]) ∧ Full m A ∧ RT 2461 127 A ∧ Rel S.length R xs A ∧ Feed o) ?_ ?_
  · simp!
    refine drawN_ok (m := 13) (by omega) rfl (g1 _ _) hf (by omega) (by omega) fun tt o htt hf => ?_
    rw [g2]
    have hst : smallI (tt : Int) = true := smallI_of (by omega) (by omega)
    simp! [hst]
    refine for_sat (fun k e S1 => ∃ (A : List (List Rat)) (xs : List Py.W) (o : Ce) (x2 x4 x5 x6 x7 x8 : Option Py.W), e = [some (.c i), some (.d (.int (m : Nat))), x2, some (.c (S.length + m)), x4, x5, x6, x7, x8] ∧ S1 = S.set i o ++ (R.map rowC ++ [.lst xs]) ∧ Full m A ∧ RT (2413 + 4 * k) (67 + 5 * k) A ∧ Rel S.length R xs A ∧ Feed o) ?_ ?_ ?_
    · exact ⟨R, _, o, _, _, _, _, _, _, rfl, rfl, hfull, hRT, hrel, hf⟩
    · rintro k x e S1 hx ⟨A, xs, o, x2, x4, x5, x6, x7, x8, rfl, rfl, hA, hT, hr, hf⟩
      obtain ⟨hk, rfl⟩ := rng0 (N := tt) rfl hx
      refine ⟨trivial, _, rfl, ?_⟩
      simp_all!
      refine drawN_ok (m := m) (by omega) rfl (g1 _ _) hf (by omega) (by omega) fun one o h1 hf => ?_
      rw [g2]
      simp!
      simp_all!
      refine drawN_ok (m := m - 1) (by omega) (by omega) (g1 _ _) hf (by omega) (by omega) fun r o h2 hf => ?_
      rw [g2]
      have hm0 : (m : Int) ≠ 0 := by omega
      obtain ⟨two, ht, ht2, htn⟩ : ∃ two : Nat, ((one : Int) + 1 + (r : Int)).fmod (m : Int) = (two : Nat) ∧ two < m ∧ one ≠ two := by
        refine ⟨(one + 1 + r) % m, ?_, Nat.mod_lt _ (by omega), ?_⟩
        · rw [Int.fmod_eq_emod_of_nonneg _ (by omega)]
          push_cast
          rfl
        · by_cases q : one + 1 + r < m
          · rw [Nat.mod_eq_of_lt q]
            omega
          · rw [Nat.mod_eq_sub_mod (by omega), Nat.mod_eq_of_lt (by omega)]
            omega
      have hxl : xs.length = m := by rw [hr.len, hA.m]
      have i1 : one < xs.length := by omega
      have i2 : two < xs.length := by omega
      have i3 : one < A.length := by rw [hA.m]; exact h1
      have i4 : two < A.length := by rw [hA.m]; exact ht2
      have x1 : xs[one]? = some xs[one] := List.getElem?_eq_getElem i1
      have x2' : xs[two]? = some xs[two] := List.getElem?_eq_getElem i2
      have a1 : A[one]? = some A[one] := List.getElem?_eq_getElem i3
      have a2 : A[two]? = some A[two] := List.getElem?_eq_getElem i4
      have e1 := hr.el one _ _ x1 a1
      have e2 := hr.el two _ _ x2' a2
      have j1 : atI xs (one : Int) = some xs[one] := atI_nat x1
      have j2 : atI xs (two : Int) = some xs[two] := atI_nat x2'
      have low : ∀ (x : Py.W) (a : List Rat), (x = .d (LR a) ∨ ∃ t, x = .c (S.length + t) ∧ R[t]? = some a) → x.lowB (S.length + m) = true := fun x a e => by
        rcases e with rfl | ⟨t, rfl, ht⟩
        · rfl
        · have := (List.getElem?_eq_some_iff.mp ht).1
          show Nat.blt (S.length + t) (S.length + m) = true
          exact Nat.ble_eq_true_of_le (by omega)
      have rowAt : ∀ (x : Py.W) (a : List Rat) (o : Ce), (x = .d (LR a) ∨ ∃ t, x = .c (S.length + t) ∧ R[t]? = some a) → RowAt x (S.set i o ++ (R.map rowC ++ [.lst xs])) a := fun x a o e => by
        rcases e with rfl | ⟨t, rfl, ht⟩
        · exact .inl rfl
        · exact .inr ⟨_, rfl, g5 o _ R t a ht⟩
      have l1 := low _ _ e1
      have l2 := low _ _ e2
      have ra1 := fun o => rowAt _ _ o e1
      have ra2 := fun o => rowAt _ _ o e2
      have sw := hr.swap x1 x2' a1 a2 htn
      generalize xs[one] = x at x1 j1 e1 l1 ra1 sw
      generalize xs[two] = y at x2' j2 e2 l2 ra2 sw
      simp! [hm0, ht]
      refine drawN_ok (m := 4) (by omega) rfl (g1 _ _) hf (by omega) (by omega) fun r4 o h4 hf => ?_
      rw [g2]
      simp!
      refine br_of (fun h5 => ?_) (fun h5 => ?_)
      · have s1 : setIx (.c (S.length + m)) (.d (.int (one : Nat))) y (S.set i o ++ (R.map rowC ++ [.lst xs])) = some (S.set i o ++ (R.map rowC ++ [.lst (xs.set one y)])) := by
          unfold setIx
          dsimp only
          rw [g3 _ _ R hRl]
          dsimp only
          rw [ixN_nat i1]
          dsimp only
          rw [if_pos l2, g4 _ _ _ R hRl]
        have s2 : setIx (.c (S.length + m)) (.d (.int (two : Nat))) x (S.set i o ++ (R.map rowC ++ [.lst (xs.set one y)])) = some (S.set i o ++ (R.map rowC ++ [.lst ((xs.set one y).set two x)])) := by
          unfold setIx
          dsimp only
          rw [g3 _ _ R hRl]
          dsimp only
          rw [ixN_nat (by rw [List.length_set]; exact i2)]
          dsimp only
          rw [if_pos l1, g4 _ _ _ R hRl]
        simp! [↓q_swp, ↓s1, ↓s2, g3 _ _ R hRl, j1, j2]
        refine ⟨(A.set one A[two]).set two A[one], _, o, _, _, _, _, _, _, rfl, rfl, hA.swap a1 a2, ?_, sw, hf⟩
        obtain ⟨d, d0, d1, d2⟩ := hT
        refine ⟨d, d0, Nat.lt_of_lt_of_le d1 (Nat.pow_le_pow_right (by decide) (by omega)), fun a ma q mq => ?_⟩
        have ma' : a ∈ A := by
          rcases List.mem_or_eq_of_mem_set ma with ma | rfl
          · rcases List.mem_or_eq_of_mem_set ma with ma | rfl
            · exact ma
            · exact List.getElem_mem _
          · exact List.getElem_mem _
        exact (d2 a ma' q mq).mono (Nat.pow_le_pow_right (by decide) (by omega))
      · simp! [g3 _ _ R hRl, j1]
        refine number0_ok (by omega) (g1 _ _) hf fun c o hc hf => ?_
        rw [g2]
        simp! [g3 _ _ R hRl, j2]
        have la1 := hA.len _ (List.getElem_mem i3)
        have la2 := hA.len _ (List.getElem_mem i4)
        refine added_ok (k := (2413 + 4 * k) + (67 + 5 * k)) (m := m) (by omega) (ra1 o) (ra2 o) la1 la2 (by omega) hc (hT.sz _ (List.getElem_mem i3)) (hT.sz _ (List.getElem_mem i4)) (by omega) ?_
        simp! [g3 _ _ R hRl, g4 _ _ _ R hRl, ixN_nat i1]
        refine ⟨A.set one (addR m A[one] c A[two]), _, o, _, _, _, _, _, _, rfl, rfl, hA.add a1 a2 htn, ?_, hr.set, hf⟩
        obtain ⟨d, d0, d1, d2⟩ := hT
        refine ⟨d * (1 * c.den), Nat.mul_pos d0 (Nat.mul_pos (by decide) c.den_pos), ?_, fun a ma => ?_⟩
        · rw [Nat.one_mul]
          have := Nat.mul_lt_mul'' d1 hc.2
          rw [← Nat.pow_add] at this
          exact Nat.lt_of_lt_of_le this (Nat.pow_le_pow_right (by decide) (by omega))
        · have hv : 2 ^ (67 + 5 * k) + 2 ^ 4 * 2 ^ (67 + 5 * k) ≤ 2 ^ (67 + 5 * (k + 1)) := by
            rw [show 67 + 5 * (k + 1) = 5 + (67 + 5 * k) by omega, Nat.pow_add 2 5]
            have := Nat.two_pow_pos (67 + 5 * k)
            omega
          rcases List.mem_or_eq_of_mem_set ma with ma | rfl
          · intro q mq
            rw [Nat.one_mul]
            exact ((d2 a ma q mq).up c.den).mono (by omega)
          · have f := fr_add (e := 1) la1 la2 hc (by rw [Nat.mul_one]; exact d2 _ (List.getElem_mem i3)) (d2 _ (List.getElem_mem i4))
            exact fun q mq => (f q mq).mono hv
    · rintro e S1 ⟨A, xs, o, x2, x4, x5, x6, x7, x8, rfl, rfl, hA, hT, hr, hf⟩
      rw [rng0_len (N := tt) rfl] at hT
      exact ⟨trivial, A, xs, o, _, _, _, _, _, _, _, _, rfl, rfl, hA, hT.mono (by omega) (by omega), hr, hf⟩
  intro e S1 hh
  obtain ⟨A, xs, o, x0, x1, x2, x4, x5, x6, x7, x8, hE, hS, hA, hT, hr, hf⟩ := hh
  subst hE hS
  obtain ⟨U, u1, u2⟩ := hr.frz (T := S.set i o) (eL o)
  rw [hRl] at u1
  simp! [u1]
  rw [u2]
  exact h A o hA hT hf
end Lw

namespace Lw
open PySem PySem.Spec PyProof.Rows L2 Py
theorem u07a : uB (2461 + 127 + 3) 6 ≤ 1000000 := by decide
theorem u07b : uB (2486 + 134 + 3) 6 ≤ 1000000 := by decide
theorem way07 {m k v : Nat} {A : List (List Rat)} (hl : ∀ a ∈ A, a.length = m) (hm : m ≤ 6) (hR : RT k v A) (hu : uB (k + v + 3) 6 ≤ 1000000) (hk : k + v ≤ 10000) : ∃ u kx vx ky vy, Way u kx vx ky vy m A ∧ 2 * (kx + vx) + 4 * u + (ky + vy) + 1 ≤ 60000000 := by
  have hw := way_fr (c := 3) (N := 6) hl hR.rz (.inl hm) (by decide)
  generalize uB (k + v + 3) 6 = U at hw hu
  exact ⟨_, _, _, _, _, hw, by omega⟩
theorem lt_neD (X : List (List Rat)) (S : Sto) : opNeD (.d (LT X)) (.d (LT X)) S = .ok (.d (.bl false)) S := by
  have := (Lk.pair Lk.int Lk.int).lst.lst.neD (a := X.map fun r => r.map fun q => (q.num, (q.den : Int))) (b := X.map fun r => r.map fun q => (q.num, (q.den : Int))) (S := S) (by decide)
  have e : D.lst ((X.map fun r => r.map fun q => (q.num, (q.den : Int))).map fun r => D.lst (r.map fun p => D.tup [.int p.1, .int p.2])) = LT X := by
    unfold LT LR
    rw [List.map_map]
    congr 1
    refine List.map_congr_left fun r _ => ?_
    show D.lst _ = D.lst _
    rw [List.map_map]
    rfl
  have h : opNeD (.d (D.lst ((X.map fun r => r.map fun q => (q.num, (q.den : Int))).map fun r => D.lst (r.map fun p => D.tup [.int p.1, .int p.2])))) (.d (D.lst ((X.map fun r => r.map fun q => (q.num, (q.den : Int))).map fun r => D.lst (r.map fun p => D.tup [.int p.1, .int p.2])))) S = _ := this
  rw [e] at h
  rw [h]
  simp
theorem law_holds : ∀ ns : List Int, ns.length ≤ 63 → (∀ z ∈ ns, PySem.Builtin.Int.intBits z ≤ 1048576) → ∃ S, FT 150 i_law [.d (.lsx (ns.map D.int))] [] = .ok (.d (.bl true)) S := by
  intro ns hns hzb
  suffices h : (FT 150 i_law [.d (.lsx (ns.map D.int))] []).sat fun w _ => w = .d (.bl true) by
    obtain ⟨w, S, e, rfl⟩ := sat_get h
    exact ⟨S, e⟩
  have s2 : smallI 2 = true := by decide
  have z2 : (2 : Nat) ≤ sizeLine := by decide
  rw [show (150 : Nat) = 149 + 1 from rfl, FT_law]
  with_reducible refine run_sat (by simp) ?_
  unfold c_law
  simp_all!
  refine feed_ok (by omega) hns fun o hf => ?_
  simp!
  simp_all!
  refine draw_ok (by omega) (by simp) hf (by decide) (by decide) fun r3 o w0 w1 hf => ?_
  obtain ⟨b, hb⟩ : ∃ b : Bool, decide (r3 = 0) = b := ⟨_, rfl⟩
  have m4 : ∀ x, IntMulOk 4 x := fun x => mulOkL (by decide)
  simp! [m4, hb]
  obtain ⟨v, hv, hV⟩ : ∃ v : Nat, v ≤ 4 ∧ (4 * if b = true then (1 : Int) else 0) = v := by
    cases b
    · exact ⟨0, by omega, rfl⟩
    · exact ⟨4, by omega, rfl⟩
  generalize (4 * if b = true then (1 : Int) else 0) = V at hV
  simp_all!
  refine draw_ok (by omega) (by rfl) hf (by decide) (by decide) fun W0 o w0 w1 hf => ?_
  simp!
  with_reducible refine rs_cut (fun e S1 => ∃ (m : Nat) (M : Int) (o : Ce) (x0 x4 x5 x6 x7 x8 x9 x10 : Option Py.W), e = [x0, some (.c 0), some (.d (.int V)), some (.d (.int M)), x4, x5, x6, x7, x8, x9, x10] ∧ S1 = [o] ∧ M = m ∧ m ≤ 6 ∧ Feed o) ?_ ?_
  · simp!
    refine draw_ok (by omega) (by rfl) hf (by decide) (by decide) fun r o h0 h1 hf => ?_
    simp!
    refine br_of (fun q => ?_) (fun q => ?_)
    · simp!
      exact ⟨6, _, o, _, _, _, _, _, _, _, _, rfl, rfl, rfl, by omega, hf⟩
    · simp!
      exact ⟨W0.toNat, _, o, _, _, _, _, _, _, _, _, rfl, rfl, by omega, by omega, hf⟩
  intro e S1 hh
  obtain ⟨m, M, o, x0, x4, x5, x6, x7, x8, x9, x10, hE, hS, hM, hm6, hf⟩ := hh
  subst hE hS
  have hsM : smallI M = true := smallI_of (by omega) (by omega)
  have zm : m ≤ 16777216 := by omega
  have g0 : ∀ (o : Ce) (X : Sto), (o :: X)[0]? = some o := fun _ _ => rfl
  simp_all!
  with_reducible refine square_ok (v := v) (by omega) hM hm6 hV hv (g0 o []) hf fun A o hA hT hf => ?_
  simp!
  have am := hA.m
  simp_all!
  refine ratio_table_ok (k := 2461 + 127) (h := A.length) (w := m) (by omega) ⟨rfl, hA.len, hT.sz⟩ (by omega) (by omega) (by omega) ?_
  simp!
  -- the unit table
  with_reducible refine rs_cut (fun e S1 => ∃ (x0 x2 x7 x8 x9 x10 : Option Py.W), e = [x0, some (.c 0), x2, some (.d (.int M)), some (.d (LT A)), some (.d (TT A)), some (.d (LT (unitR m))), x7, x8, x9, x10] ∧ S1 = [o]) ?_ ?_
  · simp! [hsM]
    refine comp_each (l := List.range m) (mk := fun j => Py.W.d (.int (j : Nat))) (f := fun i => LR (mkR m i)) (by rw [hM]; exact rng_map m) ?_ trivial ?_
    · intro i hi
      refine ⟨_, rfl, ?_⟩
      simp! [hsM]
      refine comp_each (l := List.range m) (mk := fun j => Py.W.d (.int (j : Nat))) (f := fun j => TQ (if i = j then 1 else 0)) (by rw [hM]; exact rng_map m) ?_ trivial ?_
      · intro j hj
        refine ⟨_, rfl, ?_⟩
        by_cases h : i = j
        · subst h
          simp! [z2]
          simp
        · have h3 : ¬ ((i : Int) = (j : Int)) := by omega
          simp! [h3, z2]
          simp [h]
      · simp! [plainL_map, zm, List.length_range]
        have e : (List.range m).map (fun j => TQ (if i = j then 1 else 0)) = (mkR m i).map TQ := by
          unfold mkR
          rw [List.map_map]
          rfl
        rw [e]
    · simp! [plainL_map, zm, List.length_range]
      have e : (List.range m).map (fun i => LR (mkR m i)) = (unitR m).map LR := by
        unfold unitR
        rw [List.map_map]
        rfl
      rw [e]
      exact ⟨_, _, _, _, _, _, rfl⟩
  intro e S1 hh
  obtain ⟨x0, x2, x7, x8, x9, x10, hE, hS⟩ := hh
  subst hE hS
  have ua := u07a
  have ub := u07b
  obtain ⟨u, kx, vx, ky, vy, hy, hyb⟩ := way07 hA.len hm6 hT ua (by omega)
  have inv : ∀ {S : Sto} {Q : Py.W → Sto → Prop}, Q (.d (TT (invR A))) S → (FT 149 i_inverse [.d (TT A)] S).sat Q := fun {S Q} hq => by
    have hB' : 12 * uB (2461 + 127 + 3) 6 + 4 * (2461 + 127 + 3) + 8 * (1 + 0 + 3) + 10 ≤ 60000000 := by
      generalize uB (2461 + 127 + 3) 6 = U at ua
      omega
    have c8 : 6 + 1 ≤ 2 ^ 3 := by decide
    have w1 : m ≤ 1000 := by omega
    have a1 : A.length ≤ 6 := by omega
    have n1 : 14 ≤ 149 := by decide
    with_reducible exact inverse_full (kr := 2461) (vr := 127) (c := 3) (N := 6) n1 hA w1 hy hyb hT.rz a1 c8 hB' hq
  have isz : ∀ x ∈ invR A, ∀ q ∈ x, Sz 3000000 q := fun x mx q mq => by
    have := hA.inv_sz (c := 3) (N := 6) hT.rz hm6 (by decide) x mx q mq
    generalize uB (2461 + 127 + 3) 6 = U at ua this
    exact this.mono (by omega)
  have iw := hA.inv_wid
  have il : (invR A).length = m := by rw [inv_len, am]
  have asz : ∀ x ∈ A, ∀ q ∈ x, Sz 3000 q := fun x mx q mq => (hT.sz x mx q mq).mono (by omega)
  with_reducible refine rs_cut (fun e S1 => ∃ (o : Ce) (x0 x1 x2 x3 x6 x7 x8 x9 x10 : Option Py.W), e = [x0, x1, x2, x3, some (.d (LT A)), some (.d (TT A)), x6, x7, x8, x9, x10] ∧ S1 = [o]) ?_ ?_
  · simp! [s2]
    refine for_sat (fun j e S1 => ∃ (o : Ce) (x0 x2 x7 x8 x9 x10 : Option Py.W), e = [x0, some (.c 0), x2, some (.d (.int M)), some (.d (LT A)), some (.d (TT A)), some (.d (LT (unitR m))), x7, x8, x9, x10] ∧ S1 = [o] ∧ Feed o) ⟨o, _, _, _, _, _, _, rfl, rfl, hf⟩ ?_ ?_
    · rintro j x e S1 hx ⟨o, x0, x2, x7, x8, x9, x10, rfl, rfl, hf⟩
      refine ⟨trivial, _, rfl, ?_⟩
      simp_all!
      with_reducible refine inv ?_
      simp!
      refine pairs_ok (k := 3000000) (w := m) (m := m) (by omega) hM (by omega) il iw isz (by omega) ?_
      simp!
      with_reducible refine rs_cut (fun e S1 => ∃ (x0 x2 x7 x8 x9 x10 : Option Py.W), e = [x0, some (.c 0), x2, some (.d (.int M)), some (.d (LT A)), some (.d (TT A)), some (.d (LT (unitR m))), x7, x8, x9, x10] ∧ S1 = [o]) ?_ ?_
      · simp!
        refine prod_ok (ka := 3000000) (kb := 3000) (m := m) (w := m) (by omega) hM (by omega) am (by omega) (by omega) iw hA.len isz asz (by omega) (by omega) ?_
        rw [hA.left]
        simp! [opNeG, eqS]
        rw [lt_neD]
        simp!
        refine prod_ok (ka := 3000) (kb := 3000000) (m := m) (w := m) (by omega) hM (by omega) il (by omega) (by omega) hA.len iw asz isz (by omega) (by omega) ?_
        rw [hA.right]
        simp! [opNeG, eqS]
        rw [lt_neD]
        simp!
        exact ⟨_, _, _, _, _, _, rfl⟩
      intro e S1 hh
      obtain ⟨y0, y2, y7, y8, y9, y10, hE, hS⟩ := hh
      subst hE hS
      simp!
      refine br_of (fun hm0 => ?_) (fun hm0 => ?_)
      · simp!
        refine dependent_ok (kd := 2461) (v := 127) (by omega) am (by omega) hm6 hA.len hT (by omega) (g0 o []) hf fun cs at' o h1 h2 h3 hf => ?_
        simp!
        have dl : ∀ a ∈ A.set at' (joinR cs A m), a.length = m := fun a ma => by
          rcases List.mem_or_eq_of_mem_set ma with ma | rfl
          · exact hA.len a ma
          · exact joinR_len _ _ _
        have dm : (A.set at' (joinR cs A m)).length = m := by rw [List.length_set, am]
        have dr := dep_rank am hA.len h1 h2
        obtain ⟨u', kx', vx', ky', vy', hy', hyb'⟩ := way07 dl hm6 h3 ub (by omega)
        generalize A.set at' (joinR cs A m) = B at dl dm dr hy' h3
        refine ratio_table_ok (k := 2486 + 134) (h := B.length) (w := m) (by omega) ⟨rfl, dl, h3.sz⟩ (by omega) (by omega) (by omega) ?_
        simp!
        have w1 : m ≤ 1000 := by omega
        have n1 : 14 ≤ 149 := by decide
        with_reducible refine inverse_none n1 dm dl w1 hy' hyb' dr ?_
        simp!
        exact ⟨o, _, _, _, _, _, _, rfl, rfl, hf⟩
      · simp!
        exact ⟨o, _, _, _, _, _, _, rfl, rfl, hf⟩
    · rintro e S1 ⟨o, x0, x2, x7, x8, x9, x10, rfl, rfl, hf⟩
      exact ⟨trivial, o, _, _, _, _, _, _, _, _, _, rfl, rfl⟩
  intro e S1 hh
  obtain ⟨o, x0, x1, x2, x3, x6, x7, x8, x9, x10, hE, hS⟩ := hh
  subst hE hS
  simp!
  refine same_table_ok (by omega) (by omega) (fun r mr => by rw [hA.len r mr]; omega) ?_
  rfl
end Lw

namespace Lw
open PySem PySem.Spec PyProof.Rows L2 Py
def topS (i : Nat) : Stmt := PySem.Challenge.pw_wordworth_k07_inverse.main.body.getD i (.Pass ⟨0, 0, 0, 0⟩)
abbrev JJ (G XG : Nat → Option Addr) : Jn := ⟨SG, G, XG, none⟩
abbrev II (G XG : Nat → Option Addr) (K : PySem.W.Frag) : Inf := (JJ G XG).inf K
theorem nd_0 : (SG.fl 0).Nodup := by decide +kernel
theorem ln_0 : (SG.fl 0).length < 1000 := by decide +kernel
theorem nd_1 : (SG.fl 1).Nodup := by decide +kernel
theorem ln_1 : (SG.fl 1).length < 1000 := by decide +kernel
abbrev s_shared_part : Stmt := topS 5
abbrev n_shared_part : List Str := [("one" : Str), ("other" : Str)]
theorem sc_shared_part : FnScope n_shared_part [("one" : Str), ("other" : Str)] (defScope s_shared_part) := ⟨rfl, rfl, rfl, by decide +kernel, rfl, by decide +kernel, by decide +kernel⟩
abbrev s_Ratio___init__ : Stmt := inClass (topS 6) 0
abbrev n_Ratio___init__ : List Str := [("self" : Str), ("top" : Str), ("bottom" : Str), ("shared" : Str)]
theorem sc_Ratio___init__ : FnScope n_Ratio___init__ [("self" : Str), ("top" : Str), ("bottom" : Str)] (defScope s_Ratio___init__) := ⟨rfl, rfl, rfl, by decide +kernel, rfl, by decide +kernel, by decide +kernel⟩
abbrev s_Ratio___add__ : Stmt := inClass (topS 6) 1
abbrev n_Ratio___add__ : List Str := [("self" : Str), ("other" : Str)]
theorem sc_Ratio___add__ : FnScope n_Ratio___add__ [("self" : Str), ("other" : Str)] (defScope s_Ratio___add__) := ⟨rfl, rfl, rfl, by decide +kernel, rfl, by decide +kernel, by decide +kernel⟩
abbrev s_Ratio___sub__ : Stmt := inClass (topS 6) 2
abbrev n_Ratio___sub__ : List Str := [("self" : Str), ("other" : Str)]
theorem sc_Ratio___sub__ : FnScope n_Ratio___sub__ [("self" : Str), ("other" : Str)] (defScope s_Ratio___sub__) := ⟨rfl, rfl, rfl, by decide +kernel, rfl, by decide +kernel, by decide +kernel⟩
abbrev s_Ratio___mul__ : Stmt := inClass (topS 6) 3
abbrev n_Ratio___mul__ : List Str := [("self" : Str), ("other" : Str)]
theorem sc_Ratio___mul__ : FnScope n_Ratio___mul__ [("self" : Str), ("other" : Str)] (defScope s_Ratio___mul__) := ⟨rfl, rfl, rfl, by decide +kernel, rfl, by decide +kernel, by decide +kernel⟩
abbrev s_Ratio___neg__ : Stmt := inClass (topS 6) 4
abbrev n_Ratio___neg__ : List Str := [("self" : Str)]
theorem sc_Ratio___neg__ : FnScope n_Ratio___neg__ [("self" : Str)] (defScope s_Ratio___neg__) := ⟨rfl, rfl, rfl, by decide +kernel, rfl, by decide +kernel, by decide +kernel⟩
abbrev s_Ratio___eq__ : Stmt := inClass (topS 6) 5
abbrev n_Ratio___eq__ : List Str := [("self" : Str), ("other" : Str)]
theorem sc_Ratio___eq__ : FnScope n_Ratio___eq__ [("self" : Str), ("other" : Str)] (defScope s_Ratio___eq__) := ⟨rfl, rfl, rfl, by decide +kernel, rfl, by decide +kernel, by decide +kernel⟩
abbrev s_Ratio___bool__ : Stmt := inClass (topS 6) 6
abbrev n_Ratio___bool__ : List Str := [("self" : Str)]
theorem sc_Ratio___bool__ : FnScope n_Ratio___bool__ [("self" : Str)] (defScope s_Ratio___bool__) := ⟨rfl, rfl, rfl, by decide +kernel, rfl, by decide +kernel, by decide +kernel⟩
abbrev s_Ratio_over : Stmt := inClass (topS 6) 8
abbrev n_Ratio_over : List Str := [("self" : Str), ("other" : Str)]
theorem sc_Ratio_over : FnScope n_Ratio_over [("self" : Str), ("other" : Str)] (defScope s_Ratio_over) := ⟨rfl, rfl, rfl, by decide +kernel, rfl, by decide +kernel, by decide +kernel⟩
abbrev s_unit : Stmt := topS 8
abbrev n_unit : List Str := [("size" : Str), ("at" : Str), ("place" : Str)]
theorem sc_unit : FnScope n_unit [("size" : Str)] (defScope s_unit) := ⟨rfl, rfl, rfl, by decide +kernel, rfl, by decide +kernel, by decide +kernel⟩
abbrev s_leading : Stmt := topS 9
abbrev n_leading : List Str := [("row" : Str), ("place" : Str), ("number" : Str)]
theorem sc_leading : FnScope n_leading [("row" : Str)] (defScope s_leading) := ⟨rfl, rfl, rfl, by decide +kernel, rfl, by decide +kernel, by decide +kernel⟩
abbrev s_scaled_row : Stmt := topS 10
abbrev n_scaled_row : List Str := [("row" : Str), ("number" : Str), ("one" : Str)]
theorem sc_scaled_row : FnScope n_scaled_row [("row" : Str), ("number" : Str)] (defScope s_scaled_row) := ⟨rfl, rfl, rfl, by decide +kernel, rfl, by decide +kernel, by decide +kernel⟩
abbrev s_less : Stmt := topS 11
abbrev n_less : List Str := [("row" : Str), ("number" : Str), ("other" : Str), ("one" : Str), ("two" : Str)]
theorem sc_less : FnScope n_less [("row" : Str), ("number" : Str), ("other" : Str)] (defScope s_less) := ⟨rfl, rfl, rfl, by decide +kernel, rfl, by decide +kernel, by decide +kernel⟩
abbrev s_Space___init__ : Stmt := inClass (topS 12) 0
abbrev n_Space___init__ : List Str := [("self" : Str)]
theorem sc_Space___init__ : FnScope n_Space___init__ [("self" : Str)] (defScope s_Space___init__) := ⟨rfl, rfl, rfl, by decide +kernel, rfl, by decide +kernel, by decide +kernel⟩
abbrev s_Space_rest : Stmt := inClass (topS 12) 1
abbrev n_Space_rest : List Str := [("self" : Str), ("row" : Str), ("kept" : Str)]
theorem sc_Space_rest : FnScope n_Space_rest [("self" : Str), ("row" : Str)] (defScope s_Space_rest) := ⟨rfl, rfl, rfl, by decide +kernel, rfl, by decide +kernel, by decide +kernel⟩
abbrev s_Space_has : Stmt := inClass (topS 12) 2
abbrev n_Space_has : List Str := [("self" : Str), ("row" : Str)]
theorem sc_Space_has : FnScope n_Space_has [("self" : Str), ("row" : Str)] (defScope s_Space_has) := ⟨rfl, rfl, rfl, by decide +kernel, rfl, by decide +kernel, by decide +kernel⟩
abbrev s_Space_grow : Stmt := inClass (topS 12) 3
abbrev n_Space_grow : List Str := [("self" : Str), ("row" : Str), ("place" : Str), ("others" : Str), ("kept" : Str)]
theorem sc_Space_grow : FnScope n_Space_grow [("self" : Str), ("row" : Str)] (defScope s_Space_grow) := ⟨rfl, rfl, rfl, by decide +kernel, rfl, by decide +kernel, by decide +kernel⟩
abbrev s_space_of : Stmt := topS 13
abbrev n_space_of : List Str := [("rows" : Str), ("space" : Str), ("row" : Str)]
theorem sc_space_of : FnScope n_space_of [("rows" : Str)] (defScope s_space_of) := ⟨rfl, rfl, rfl, by decide +kernel, rfl, by decide +kernel, by decide +kernel⟩
abbrev s_reduced : Stmt := topS 14
abbrev n_reduced : List Str := [("rows" : Str)]
theorem sc_reduced : FnScope n_reduced [("rows" : Str)] (defScope s_reduced) := ⟨rfl, rfl, rfl, by decide +kernel, rfl, by decide +kernel, by decide +kernel⟩
abbrev s_rank : Stmt := topS 15
abbrev n_rank : List Str := [("rows" : Str)]
theorem sc_rank : FnScope n_rank [("rows" : Str)] (defScope s_rank) := ⟨rfl, rfl, rfl, by decide +kernel, rfl, by decide +kernel, by decide +kernel⟩
abbrev s_solve : Stmt := topS 16
abbrev n_solve : List Str := [("rows" : Str), ("wanted" : Str), ("many" : Str), ("marks" : Str), ("space" : Str), ("left" : Str), ("width" : Str), ("at" : Str), ("row" : Str), ("number" : Str), ("_" : Str)]
theorem sc_solve : FnScope n_solve [("rows" : Str), ("wanted" : Str)] (defScope s_solve) := ⟨rfl, rfl, rfl, by decide +kernel, rfl, by decide +kernel, by decide +kernel⟩
abbrev s_inverse : Stmt := topS 17
abbrev n_inverse : List Str := [("table" : Str), ("size" : Str), ("row" : Str)]
theorem sc_inverse : FnScope n_inverse [("table" : Str)] (defScope s_inverse) := ⟨rfl, rfl, rfl, by decide +kernel, rfl, by decide +kernel, by decide +kernel⟩
abbrev s__law_feed : Stmt := topS 19
abbrev n__law_feed : List Str := [("script" : Str), ("cell" : Str)]
theorem sc__law_feed : FnScope n__law_feed [("script" : Str)] (defScope s__law_feed) := ⟨rfl, rfl, rfl, by decide +kernel, rfl, by decide +kernel, by decide +kernel⟩
abbrev s__law_draw : Stmt := topS 20
abbrev n__law_draw : List Str := [("feed" : Str), ("limit" : Str), ("cells" : Str), ("cell" : Str), ("found" : Str)]
theorem sc__law_draw : FnScope n__law_draw [("feed" : Str), ("limit" : Str)] (defScope s__law_draw) := ⟨rfl, rfl, rfl, by decide +kernel, rfl, by decide +kernel, by decide +kernel⟩
abbrev s__law_great : Stmt := topS 21
abbrev n__law_great : List Str := [("feed" : Str), ("parts" : Str), ("found" : Str), ("k" : Str)]
theorem sc__law_great : FnScope n__law_great [("feed" : Str), ("parts" : Str)] (defScope s__law_great) := ⟨rfl, rfl, rfl, by decide +kernel, rfl, by decide +kernel, by decide +kernel⟩
abbrev s__law_pair : Stmt := topS 22
abbrev n__law_pair : List Str := [("above" : Str), ("below" : Str), ("one" : Str), ("two" : Str)]
theorem sc__law_pair : FnScope n__law_pair [("above" : Str), ("below" : Str)] (defScope s__law_pair) := ⟨rfl, rfl, rfl, by decide +kernel, rfl, by decide +kernel, by decide +kernel⟩
abbrev s__law_sum : Stmt := topS 23
abbrev n__law_sum : List Str := [("one" : Str), ("two" : Str)]
theorem sc__law_sum : FnScope n__law_sum [("one" : Str), ("two" : Str)] (defScope s__law_sum) := ⟨rfl, rfl, rfl, by decide +kernel, rfl, by decide +kernel, by decide +kernel⟩
abbrev s__law_by : Stmt := topS 24
abbrev n__law_by : List Str := [("one" : Str), ("two" : Str)]
theorem sc__law_by : FnScope n__law_by [("one" : Str), ("two" : Str)] (defScope s__law_by) := ⟨rfl, rfl, rfl, by decide +kernel, rfl, by decide +kernel, by decide +kernel⟩
abbrev s__law_is_integer : Stmt := topS 25
abbrev n__law_is_integer : List Str := [("actual" : Str)]
theorem sc__law_is_integer : FnScope n__law_is_integer [("actual" : Str)] (defScope s__law_is_integer) := ⟨rfl, rfl, rfl, by decide +kernel, rfl, by decide +kernel, by decide +kernel⟩
abbrev s__law_same : Stmt := topS 26
abbrev n__law_same : List Str := [("actual" : Str), ("due" : Str)]
theorem sc__law_same : FnScope n__law_same [("actual" : Str), ("due" : Str)] (defScope s__law_same) := ⟨rfl, rfl, rfl, by decide +kernel, rfl, by decide +kernel, by decide +kernel⟩
abbrev s__law_same_row : Stmt := topS 27
abbrev n__law_same_row : List Str := [("actual" : Str), ("due" : Str), ("k" : Str)]
theorem sc__law_same_row : FnScope n__law_same_row [("actual" : Str), ("due" : Str)] (defScope s__law_same_row) := ⟨rfl, rfl, rfl, by decide +kernel, rfl, by decide +kernel, by decide +kernel⟩
abbrev s__law_same_table : Stmt := topS 28
abbrev n__law_same_table : List Str := [("actual" : Str), ("due" : Str), ("k" : Str)]
theorem sc__law_same_table : FnScope n__law_same_table [("actual" : Str), ("due" : Str)] (defScope s__law_same_table) := ⟨rfl, rfl, rfl, by decide +kernel, rfl, by decide +kernel, by decide +kernel⟩
abbrev s__law_ratios : Stmt := topS 29
abbrev n__law_ratios : List Str := [("line" : Str), ("one" : Str)]
theorem sc__law_ratios : FnScope n__law_ratios [("line" : Str)] (defScope s__law_ratios) := ⟨rfl, rfl, rfl, by decide +kernel, rfl, by decide +kernel, by decide +kernel⟩
abbrev s__law_ratio_table : Stmt := topS 30
abbrev n__law_ratio_table : List Str := [("lines" : Str), ("line" : Str)]
theorem sc__law_ratio_table : FnScope n__law_ratio_table [("lines" : Str)] (defScope s__law_ratio_table) := ⟨rfl, rfl, rfl, by decide +kernel, rfl, by decide +kernel, by decide +kernel⟩
abbrev s__law_number : Stmt := topS 31
abbrev n__law_number : List Str := [("feed" : Str), ("wide" : Str), ("kind" : Str), ("above" : Str)]
theorem sc__law_number : FnScope n__law_number [("feed" : Str), ("wide" : Str)] (defScope s__law_number) := ⟨rfl, rfl, rfl, by decide +kernel, rfl, by decide +kernel, by decide +kernel⟩
abbrev s__law_product : Stmt := topS 32
abbrev n__law_product : List Str := [("one" : Str), ("two" : Str), ("width" : Str), ("found" : Str), ("line" : Str), ("done" : Str), ("place" : Str), ("total" : Str), ("k" : Str)]
theorem sc__law_product : FnScope n__law_product [("one" : Str), ("two" : Str), ("width" : Str)] (defScope s__law_product) := ⟨rfl, rfl, rfl, by decide +kernel, rfl, by decide +kernel, by decide +kernel⟩
abbrev s__law_other : Stmt := topS 33
abbrev n__law_other : List Str := [("feed" : Str), ("wide" : Str), ("found" : Str)]
theorem sc__law_other : FnScope n__law_other [("feed" : Str), ("wide" : Str)] (defScope s__law_other) := ⟨rfl, rfl, rfl, by decide +kernel, rfl, by decide +kernel, by decide +kernel⟩
abbrev s__law_added : Stmt := topS 34
abbrev n__law_added : List Str := [("line" : Str), ("number" : Str), ("other" : Str), ("k" : Str)]
theorem sc__law_added : FnScope n__law_added [("line" : Str), ("number" : Str), ("other" : Str)] (defScope s__law_added) := ⟨rfl, rfl, rfl, by decide +kernel, rfl, by decide +kernel, by decide +kernel⟩
abbrev s__law_square : Stmt := topS 35
abbrev n__law_square : List Str := [("feed" : Str), ("size" : Str), ("wide" : Str), ("found" : Str), ("k" : Str), ("turn" : Str), ("one" : Str), ("two" : Str), ("place" : Str)]
theorem sc__law_square : FnScope n__law_square [("feed" : Str), ("size" : Str), ("wide" : Str)] (defScope s__law_square) := ⟨rfl, rfl, rfl, by decide +kernel, rfl, by decide +kernel, by decide +kernel⟩
abbrev s__law_dependent : Stmt := topS 36
abbrev n__law_dependent : List Str := [("feed" : Str), ("lines" : Str), ("size" : Str), ("at" : Str), ("line" : Str), ("k" : Str)]
theorem sc__law_dependent : FnScope n__law_dependent [("feed" : Str), ("lines" : Str)] (defScope s__law_dependent) := ⟨rfl, rfl, rfl, by decide +kernel, rfl, by decide +kernel, by decide +kernel⟩
abbrev s__law_pairs : Stmt := topS 37
abbrev n__law_pairs : List Str := [("actual" : Str), ("size" : Str), ("found" : Str), ("line" : Str), ("done" : Str), ("one" : Str)]
theorem sc__law_pairs : FnScope n__law_pairs [("actual" : Str), ("size" : Str)] (defScope s__law_pairs) := ⟨rfl, rfl, rfl, by decide +kernel, rfl, by decide +kernel, by decide +kernel⟩
abbrev s_law : Stmt := topS 38
abbrev n_law : List Str := [("script" : Str), ("feed" : Str), ("wide" : Str), ("size" : Str), ("lines" : Str), ("table" : Str), ("unit_v" : Str), ("turn" : Str), ("found" : Str), ("k" : Str), ("place" : Str)]
theorem sc_law : FnScope n_law [("script" : Str)] (defScope s_law) := ⟨rfl, rfl, rfl, by decide +kernel, rfl, by decide +kernel, by decide +kernel⟩
section
variable {P : Program} {w : World} {K : PySem.W.Frag} {mg : Str → Option Value} {base : Heap} {G XG : Nat → Option Addr} {F F1 Fi : FnTab} {k : Nat} {fa : Addr} {fd : FuncData}
theorem ok_shared_part (hF : Fun K "shared_part" "shared_part" s_shared_part fa fd) (T : Tb (JJ G XG) P w K mg base F Fi k) (he : ∀ ws S, F1 i_shared_part ws S = runDef 2 2 (c_shared_part F Fi) ws S) : FnOk P w K mg base (L2.CX P w) (k + 2) fa fd [("one" : Str), ("other" : Str)] (spOf (II G XG K) F1 i_shared_part 2) :=
  def_ok hF sc_shared_part rfl he fun cdv A outer s H E hr => (fun (c : Cok (JJ G XG) (cxOf (L2.CX P w) P w K mg base n_shared_part "shared_part" (defScope s_shared_part) fa cdv A outer s H E) (fun cls dd _ H' => E cls dd H') F Fi k) =>
    (ss_cons (ss_while c (st_cmp (o_neG (I := II G XG K) (units64 c.room)) (sx_var (pv 1)) sx_int) (ss_one (ss_par c.calm c.nd (by decide) (sx_var (pv 1)) (sx_op (o_mod (I := II G XG K)) (sx_var (pv 0)) (sx_var (pv 1)))))) (ss_one (ss_ret (sx_var (pv 0)))))) (cok_of T sc_shared_part hr)
theorem ok_Ratio___init__ (hF : FunD K "__init__" "Ratio.__init__" (defArgs s_Ratio___init__) (defBody s_Ratio___init__) (defScope s_Ratio___init__) [V.int 1] [] fa fd) (T : Tb (JJ G XG) P w K mg base F Fi k) (he : ∀ ws S, F1 i_Ratio___init__ ws S = runDef 4 3 (c_Ratio___init__ F Fi) ws S) : FnOk P w K mg base (L2.CX P w) (k + 2) fa fd [("self" : Str), ("top" : Str), ("bottom" : Str)] (spOf (II G XG K) F1 i_Ratio___init__ 3) :=
  def_okD hF sc_Ratio___init__ rfl he fun cdv A outer s H E hr => (fun (c : Cok (JJ G XG) (cxOf (L2.CX P w) P w K mg base n_Ratio___init__ "Ratio.__init__" (defScope s_Ratio___init__) fa cdv A outer s H E) (fun cls dd _ H' => E cls dd H') F Fi k) =>
    (ss_cons (ss_if (st_cmp (o_ownEq c (f := i_Ratio___eq__) (c := 0) rfl (o_eqG (I := II G XG K) (units64 c.room))) (sx_var (pv 2)) sx_int) (ss_one ss_never) ss_nil) (ss_cons (ss_if (st_cmp (o_lt (I := II G XG K)) (sx_var (pv 2)) sx_int) (ss_one (ss_par c.calm c.nd (by decide) (sx_un (u_own c (f := i_Ratio___neg__) (c := 0) rfl (u_neg (I := II G XG K))) (sx_var (pv 1))) (sx_un (u_own c (f := i_Ratio___neg__) (c := 0) rfl (u_neg (I := II G XG K))) (sx_var (pv 2))))) ss_nil) (ss_cons (ss_set c.nd (sx_call c (f := i_shared_part) rfl (sa_cons (sx_fn (c_abs (I := II G XG K)) c rfl bt_abs (sa_cons (sx_var (pv 1)) sa_nil)) (sa_cons (sx_var (pv 2)) sa_nil)))) (ss_cons (ss_fld c (c := 0) (i := 0) rfl nd_0 ln_0 (sx_var (pv 0)) (sx_op (o_div c (I := II G XG K)) (sx_var (pv 1)) (sx_var (pv 3)))) (ss_one (ss_fld c (c := 0) (i := 1) rfl nd_0 ln_0 (sx_var (pv 0)) (sx_op (o_div c (I := II G XG K)) (sx_var (pv 2)) (sx_var (pv 3)))))))))) (cok_of T sc_Ratio___init__ hr)
theorem ok_Ratio___add__ (hF : Fun K "__add__" "Ratio.__add__" s_Ratio___add__ fa fd) (T : Tb (JJ G XG) P w K mg base F Fi k) (he : ∀ ws S, F1 i_Ratio___add__ ws S = runDef 2 2 (c_Ratio___add__ F Fi) ws S) : FnOk P w K mg base (L2.CX P w) (k + 2) fa fd [("self" : Str), ("other" : Str)] (spOf (II G XG K) F1 i_Ratio___add__ 2) :=
  def_ok hF sc_Ratio___add__ rfl he fun cdv A outer s H E hr => (fun (c : Cok (JJ G XG) (cxOf (L2.CX P w) P w K mg base n_Ratio___add__ "Ratio.__add__" (defScope s_Ratio___add__) fa cdv A outer s H E) (fun cls dd _ H' => E cls dd H') F Fi k) =>
    (ss_one (ss_ret (sx_mkF c (x := "Ratio") (dfl := []) (dvs := []) rfl (by decide +kernel) (fun _ => .nil) rfl (sa_cons (sx_op (o_own c (f := i_Ratio___add__) (c := 0) rfl rfl (o_add (I := II G XG K))) (sx_op (o_own c (f := i_Ratio___mul__) (c := 0) rfl rfl (o_mul (I := II G XG K))) (sx_attr c (c := 0) (i := 0) rfl nd_0 (sx_var (pv 0))) (sx_attr c (c := 0) (i := 1) rfl nd_0 (sx_var (pv 1)))) (sx_op (o_own c (f := i_Ratio___mul__) (c := 0) rfl rfl (o_mul (I := II G XG K))) (sx_attr c (c := 0) (i := 0) rfl nd_0 (sx_var (pv 1))) (sx_attr c (c := 0) (i := 1) rfl nd_0 (sx_var (pv 0))))) (sa_cons (sx_op (o_own c (f := i_Ratio___mul__) (c := 0) rfl rfl (o_mul (I := II G XG K))) (sx_attr c (c := 0) (i := 1) rfl nd_0 (sx_var (pv 0))) (sx_attr c (c := 0) (i := 1) rfl nd_0 (sx_var (pv 1)))) sa_nil)))))) (cok_of T sc_Ratio___add__ hr)
theorem ok_Ratio___sub__ (hF : Fun K "__sub__" "Ratio.__sub__" s_Ratio___sub__ fa fd) (T : Tb (JJ G XG) P w K mg base F Fi k) (he : ∀ ws S, F1 i_Ratio___sub__ ws S = runDef 2 2 (c_Ratio___sub__ F Fi) ws S) : FnOk P w K mg base (L2.CX P w) (k + 2) fa fd [("self" : Str), ("other" : Str)] (spOf (II G XG K) F1 i_Ratio___sub__ 2) :=
  def_ok hF sc_Ratio___sub__ rfl he fun cdv A outer s H E hr => (fun (c : Cok (JJ G XG) (cxOf (L2.CX P w) P w K mg base n_Ratio___sub__ "Ratio.__sub__" (defScope s_Ratio___sub__) fa cdv A outer s H E) (fun cls dd _ H' => E cls dd H') F Fi k) =>
    (ss_one (ss_ret (sx_mkF c (x := "Ratio") (dfl := []) (dvs := []) rfl (by decide +kernel) (fun _ => .nil) rfl (sa_cons (sx_op (o_own c (f := i_Ratio___sub__) (c := 0) rfl rfl (o_sub (I := II G XG K))) (sx_op (o_own c (f := i_Ratio___mul__) (c := 0) rfl rfl (o_mul (I := II G XG K))) (sx_attr c (c := 0) (i := 0) rfl nd_0 (sx_var (pv 0))) (sx_attr c (c := 0) (i := 1) rfl nd_0 (sx_var (pv 1)))) (sx_op (o_own c (f := i_Ratio___mul__) (c := 0) rfl rfl (o_mul (I := II G XG K))) (sx_attr c (c := 0) (i := 0) rfl nd_0 (sx_var (pv 1))) (sx_attr c (c := 0) (i := 1) rfl nd_0 (sx_var (pv 0))))) (sa_cons (sx_op (o_own c (f := i_Ratio___mul__) (c := 0) rfl rfl (o_mul (I := II G XG K))) (sx_attr c (c := 0) (i := 1) rfl nd_0 (sx_var (pv 0))) (sx_attr c (c := 0) (i := 1) rfl nd_0 (sx_var (pv 1)))) sa_nil)))))) (cok_of T sc_Ratio___sub__ hr)
theorem ok_Ratio___mul__ (hF : Fun K "__mul__" "Ratio.__mul__" s_Ratio___mul__ fa fd) (T : Tb (JJ G XG) P w K mg base F Fi k) (he : ∀ ws S, F1 i_Ratio___mul__ ws S = runDef 2 2 (c_Ratio___mul__ F Fi) ws S) : FnOk P w K mg base (L2.CX P w) (k + 2) fa fd [("self" : Str), ("other" : Str)] (spOf (II G XG K) F1 i_Ratio___mul__ 2) :=
  def_ok hF sc_Ratio___mul__ rfl he fun cdv A outer s H E hr => (fun (c : Cok (JJ G XG) (cxOf (L2.CX P w) P w K mg base n_Ratio___mul__ "Ratio.__mul__" (defScope s_Ratio___mul__) fa cdv A outer s H E) (fun cls dd _ H' => E cls dd H') F Fi k) =>
    (ss_one (ss_ret (sx_mkF c (x := "Ratio") (dfl := []) (dvs := []) rfl (by decide +kernel) (fun _ => .nil) rfl (sa_cons (sx_op (o_own c (f := i_Ratio___mul__) (c := 0) rfl rfl (o_mul (I := II G XG K))) (sx_attr c (c := 0) (i := 0) rfl nd_0 (sx_var (pv 0))) (sx_attr c (c := 0) (i := 0) rfl nd_0 (sx_var (pv 1)))) (sa_cons (sx_op (o_own c (f := i_Ratio___mul__) (c := 0) rfl rfl (o_mul (I := II G XG K))) (sx_attr c (c := 0) (i := 1) rfl nd_0 (sx_var (pv 0))) (sx_attr c (c := 0) (i := 1) rfl nd_0 (sx_var (pv 1)))) sa_nil)))))) (cok_of T sc_Ratio___mul__ hr)
theorem ok_Ratio___neg__ (hF : Fun K "__neg__" "Ratio.__neg__" s_Ratio___neg__ fa fd) (T : Tb (JJ G XG) P w K mg base F Fi k) (he : ∀ ws S, F1 i_Ratio___neg__ ws S = runDef 1 1 (c_Ratio___neg__ F Fi) ws S) : FnOk P w K mg base (L2.CX P w) (k + 2) fa fd [("self" : Str)] (spOf (II G XG K) F1 i_Ratio___neg__ 1) :=
  def_ok hF sc_Ratio___neg__ rfl he fun cdv A outer s H E hr => (fun (c : Cok (JJ G XG) (cxOf (L2.CX P w) P w K mg base n_Ratio___neg__ "Ratio.__neg__" (defScope s_Ratio___neg__) fa cdv A outer s H E) (fun cls dd _ H' => E cls dd H') F Fi k) =>
    (ss_one (ss_ret (sx_mkF c (x := "Ratio") (dfl := []) (dvs := []) rfl (by decide +kernel) (fun _ => .nil) rfl (sa_cons (sx_un (u_own c (f := i_Ratio___neg__) (c := 0) rfl (u_neg (I := II G XG K))) (sx_attr c (c := 0) (i := 0) rfl nd_0 (sx_var (pv 0)))) (sa_cons (sx_attr c (c := 0) (i := 1) rfl nd_0 (sx_var (pv 0))) sa_nil)))))) (cok_of T sc_Ratio___neg__ hr)
theorem ok_Ratio___eq__ (hF : Fun K "__eq__" "Ratio.__eq__" s_Ratio___eq__ fa fd) (T : Tb (JJ G XG) P w K mg base F Fi k) (he : ∀ ws S, F1 i_Ratio___eq__ ws S = runDef 2 2 (c_Ratio___eq__ F Fi) ws S) : FnOk P w K mg base (L2.CX P w) (k + 2) fa fd [("self" : Str), ("other" : Str)] (spOf (II G XG K) F1 i_Ratio___eq__ 2) :=
  def_ok hF sc_Ratio___eq__ rfl he fun cdv A outer s H E hr => (fun (c : Cok (JJ G XG) (cxOf (L2.CX P w) P w K mg base n_Ratio___eq__ "Ratio.__eq__" (defScope s_Ratio___eq__) fa cdv A outer s H E) (fun cls dd _ H' => E cls dd H') F Fi k) =>
    (ss_one (ss_ret (sx_and (sx_isC c rfl rfl (sx_var (pv 1))) (sx_and (sx_cmp (o_ownEq c (f := i_Ratio___eq__) (c := 0) rfl (o_eqG (I := II G XG K) (units64 c.room))) (sx_attr c (c := 0) (i := 0) rfl nd_0 (sx_var (pv 0))) (sx_attr c (c := 0) (i := 0) rfl nd_0 (sx_var (pv 1)))) (sx_one (sx_cmp (o_ownEq c (f := i_Ratio___eq__) (c := 0) rfl (o_eqG (I := II G XG K) (units64 c.room))) (sx_attr c (c := 0) (i := 1) rfl nd_0 (sx_var (pv 0))) (sx_attr c (c := 0) (i := 1) rfl nd_0 (sx_var (pv 1)))))))))) (cok_of T sc_Ratio___eq__ hr)
theorem ok_Ratio___bool__ (hF : Fun K "__bool__" "Ratio.__bool__" s_Ratio___bool__ fa fd) (T : Tb (JJ G XG) P w K mg base F Fi k) (he : ∀ ws S, F1 i_Ratio___bool__ ws S = runDef 1 1 (c_Ratio___bool__ F Fi) ws S) : FnOk P w K mg base (L2.CX P w) (k + 2) fa fd [("self" : Str)] (spOf (II G XG K) F1 i_Ratio___bool__ 1) :=
  def_ok hF sc_Ratio___bool__ rfl he fun cdv A outer s H E hr => (fun (c : Cok (JJ G XG) (cxOf (L2.CX P w) P w K mg base n_Ratio___bool__ "Ratio.__bool__" (defScope s_Ratio___bool__) fa cdv A outer s H E) (fun cls dd _ H' => E cls dd H') F Fi k) =>
    (ss_one (ss_ret (sx_cmp (o_neG (I := II G XG K) (units64 c.room)) (sx_attr c (c := 0) (i := 0) rfl nd_0 (sx_var (pv 0))) sx_int)))) (cok_of T sc_Ratio___bool__ hr)
theorem ok_Ratio_over (hF : Fun K "over" "Ratio.over" s_Ratio_over fa fd) (T : Tb (JJ G XG) P w K mg base F Fi k) (he : ∀ ws S, F1 i_Ratio_over ws S = runDef 2 2 (c_Ratio_over F Fi) ws S) : FnOk P w K mg base (L2.CX P w) (k + 2) fa fd [("self" : Str), ("other" : Str)] (spOf (II G XG K) F1 i_Ratio_over 2) :=
  def_ok hF sc_Ratio_over rfl he fun cdv A outer s H E hr => (fun (c : Cok (JJ G XG) (cxOf (L2.CX P w) P w K mg base n_Ratio_over "Ratio.over" (defScope s_Ratio_over) fa cdv A outer s H E) (fun cls dd _ H' => E cls dd H') F Fi k) =>
    (ss_one (ss_ret (sx_mkF c (x := "Ratio") (dfl := []) (dvs := []) rfl (by decide +kernel) (fun _ => .nil) rfl (sa_cons (sx_op (o_own c (f := i_Ratio___mul__) (c := 0) rfl rfl (o_mul (I := II G XG K))) (sx_attr c (c := 0) (i := 0) rfl nd_0 (sx_var (pv 0))) (sx_attr c (c := 0) (i := 1) rfl nd_0 (sx_var (pv 1)))) (sa_cons (sx_op (o_own c (f := i_Ratio___mul__) (c := 0) rfl rfl (o_mul (I := II G XG K))) (sx_attr c (c := 0) (i := 1) rfl nd_0 (sx_var (pv 0))) (sx_attr c (c := 0) (i := 0) rfl nd_0 (sx_var (pv 1)))) sa_nil)))))) (cok_of T sc_Ratio_over hr)
theorem ok_unit (hF : Fun K "unit" "unit" s_unit fa fd) (T : Tb (JJ G XG) P w K mg base F Fi k) (he : ∀ ws S, F1 i_unit ws S = runDef 3 1 (c_unit F Fi) ws S) : FnOk P w K mg base (L2.CX P w) (k + 2) fa fd [("size" : Str)] (spOf (II G XG K) F1 i_unit 1) :=
  def_ok hF sc_unit rfl he fun cdv A outer s H E hr => (fun (c : Cok (JJ G XG) (cxOf (L2.CX P w) P w K mg base n_unit "unit" (defScope s_unit) fa cdv A outer s H E) (fun cls dd _ H' => E cls dd H') F Fi k) =>
    (ss_one (ss_ret (sx_ty (c_tuple (I := II G XG K)) c rfl bt_tuple (sa_cons (sx_comp c (own := [("at", 1)]) (si_range1 c rfl (sx_var (pv 0))) (by decide) (blkOk_by (N := n_unit) (sc := defScope s_unit) (by decide +kernel)) (fun _ _ _ _ _ => (sg_nm (c.blk _ _ _ _ _).nd)) (fun _ _ _ _ _ => sts_nil) (fun _ _ _ _ _ => (sx_ty (c_tuple (I := II G XG K)) (c.blk _ _ _ _ _) rfl bt_tuple (sa_cons (sx_comp (c.blk _ _ _ _ _) (own := [("place", 2)]) (si_range1 (c.blk _ _ _ _ _) rfl (sx_var (pv 0))) (by decide) (blkOk_in (blkOk_by (N := n_unit) (by decide +kernel))) (fun _ _ _ _ _ => (sg_nm ((c.blk _ _ _ _ _).blk _ _ _ _ _).nd)) (fun _ _ _ _ _ => sts_nil) (fun _ _ _ _ _ => (sx_mkF ((c.blk _ _ _ _ _).blk _ _ _ _ _) (x := "Ratio") (dfl := [.int 1]) (dvs := [.int 1]) rfl (by decide +kernel) (fun _ => (.cons (.int _) .nil)) rfl (sa_cons (sx_ty (c_int (I := II G XG K)) ((c.blk _ _ _ _ _).blk _ _ _ _ _) rfl bt_int (sa_cons (sx_cmp (o_ownEq ((c.blk _ _ _ _ _).blk _ _ _ _ _) (f := i_Ratio___eq__) (c := 0) rfl (o_eqG (I := II G XG K) (units64 ((c.blk _ _ _ _ _).blk _ _ _ _ _).room))) (sx_var (pv 1)) (sx_var (pv 2))) sa_nil)) sa_nil)))) sa_nil)))) sa_nil))))) (cok_of T sc_unit hr)
theorem ok_leading (hF : Fun K "leading" "leading" s_leading fa fd) (T : Tb (JJ G XG) P w K mg base F Fi k) (he : ∀ ws S, F1 i_leading ws S = runDef 3 1 (c_leading F Fi) ws S) : FnOk P w K mg base (L2.CX P w) (k + 2) fa fd [("row" : Str)] (spOf (II G XG K) F1 i_leading 1) :=
  def_ok hF sc_leading rfl he fun cdv A outer s H E hr => (fun (c : Cok (JJ G XG) (cxOf (L2.CX P w) P w K mg base n_leading "leading" (defScope s_leading) fa cdv A outer s H E) (fun cls dd _ H' => E cls dd H') F Fi k) =>
    (ss_cons (ss_for c (si_enumerate c rfl (sx_var (pv 0))) (sg_tp (I := II G XG K) c.calm (sgs_cons (sg_nm c.nd) (sgs_cons (sg_nm c.nd) sgs_nil)) (gCons_len (gCons_len gNil_len))) (ss_one (ss_if (st_tr (truO_ne _ _ _) (tr_own c (f := i_Ratio___bool__) (c := 0) rfl) (sx_var (pv 2))) (ss_one (ss_ret (sx_var (pv 1)))) ss_nil))) (ss_one (ss_ret (sx_fn (c_len (I := II G XG K)) c rfl bt_len (sa_cons (sx_var (pv 0)) sa_nil)))))) (cok_of T sc_leading hr)
theorem ok_scaled_row (hF : Fun K "scaled_row" "scaled_row" s_scaled_row fa fd) (T : Tb (JJ G XG) P w K mg base F Fi k) (he : ∀ ws S, F1 i_scaled_row ws S = runDef 3 2 (c_scaled_row F Fi) ws S) : FnOk P w K mg base (L2.CX P w) (k + 2) fa fd [("row" : Str), ("number" : Str)] (spOf (II G XG K) F1 i_scaled_row 2) :=
  def_ok hF sc_scaled_row rfl he fun cdv A outer s H E hr => (fun (c : Cok (JJ G XG) (cxOf (L2.CX P w) P w K mg base n_scaled_row "scaled_row" (defScope s_scaled_row) fa cdv A outer s H E) (fun cls dd _ H' => E cls dd H') F Fi k) =>
    (ss_one (ss_ret (sx_ty (c_tuple (I := II G XG K)) c rfl bt_tuple (sa_cons (sx_comp c (own := [("one", 2)]) (si_any (I := II G XG K) (sx_var (pv 0))) (by decide) (blkOk_by (N := n_scaled_row) (sc := defScope s_scaled_row) (by decide +kernel)) (fun _ _ _ _ _ => (sg_nm (c.blk _ _ _ _ _).nd)) (fun _ _ _ _ _ => sts_nil) (fun _ _ _ _ _ => (sx_op (o_own (c.blk _ _ _ _ _) (f := i_Ratio___mul__) (c := 0) rfl rfl (o_mul (I := II G XG K))) (sx_var (pv 2)) (sx_var (pv 1))))) sa_nil))))) (cok_of T sc_scaled_row hr)
theorem ok_less (hF : Fun K "less" "less" s_less fa fd) (T : Tb (JJ G XG) P w K mg base F Fi k) (he : ∀ ws S, F1 i_less ws S = runDef 5 3 (c_less F Fi) ws S) : FnOk P w K mg base (L2.CX P w) (k + 2) fa fd [("row" : Str), ("number" : Str), ("other" : Str)] (spOf (II G XG K) F1 i_less 3) :=
  def_ok hF sc_less rfl he fun cdv A outer s H E hr => (fun (c : Cok (JJ G XG) (cxOf (L2.CX P w) P w K mg base n_less "less" (defScope s_less) fa cdv A outer s H E) (fun cls dd _ H' => E cls dd H') F Fi k) =>
    (ss_cons (ss_if (st_not (st_tr (truO_ne _ _ _) (tr_own c (f := i_Ratio___bool__) (c := 0) rfl) (sx_var (pv 1)))) (ss_one (ss_ret (sx_var (pv 0)))) ss_nil) (ss_one (ss_ret (sx_ty (c_tuple (I := II G XG K)) c rfl bt_tuple (sa_cons (sx_comp c (own := [("one", 3), ("two", 4)]) (si_zip c rfl (sx_var (pv 0)) (sx_var (pv 2))) (by decide) (blkOk_by (N := n_less) (sc := defScope s_less) (by decide +kernel)) (fun _ _ _ _ _ => (sg_tp (I := II G XG K) (c.blk _ _ _ _ _).calm (sgs_cons (sg_nm (c.blk _ _ _ _ _).nd) (sgs_cons (sg_nm (c.blk _ _ _ _ _).nd) sgs_nil)) (gCons_len (gCons_len gNil_len)))) (fun _ _ _ _ _ => sts_nil) (fun _ _ _ _ _ => (sx_op (o_own (c.blk _ _ _ _ _) (f := i_Ratio___sub__) (c := 0) rfl rfl (o_sub (I := II G XG K))) (sx_var (pv 3)) (sx_op (o_own (c.blk _ _ _ _ _) (f := i_Ratio___mul__) (c := 0) rfl rfl (o_mul (I := II G XG K))) (sx_var (pv 1)) (sx_var (pv 4)))))) sa_nil)))))) (cok_of T sc_less hr)
theorem ok_Space___init__ (hF : Fun K "__init__" "Space.__init__" s_Space___init__ fa fd) (T : Tb (JJ G XG) P w K mg base F Fi k) (he : ∀ ws S, F1 i_Space___init__ ws S = runDef 1 1 (c_Space___init__ F Fi) ws S) : FnOk P w K mg base (L2.CX P w) (k + 2) fa fd [("self" : Str)] (spOf (II G XG K) F1 i_Space___init__ 1) :=
  def_ok hF sc_Space___init__ rfl he fun cdv A outer s H E hr => (fun (c : Cok (JJ G XG) (cxOf (L2.CX P w) P w K mg base n_Space___init__ "Space.__init__" (defScope s_Space___init__) fa cdv A outer s H E) (fun cls dd _ H' => E cls dd H') F Fi k) =>
    (ss_one (ss_fld c (c := 1) (i := 0) rfl nd_1 ln_1 (sx_var (pv 0)) (sx_tup sa_nil)))) (cok_of T sc_Space___init__ hr)
theorem ok_Space_rest (hF : Fun K "rest" "Space.rest" s_Space_rest fa fd) (T : Tb (JJ G XG) P w K mg base F Fi k) (he : ∀ ws S, F1 i_Space_rest ws S = runDef 3 2 (c_Space_rest F Fi) ws S) : FnOk P w K mg base (L2.CX P w) (k + 2) fa fd [("self" : Str), ("row" : Str)] (spOf (II G XG K) F1 i_Space_rest 2) :=
  def_ok hF sc_Space_rest rfl he fun cdv A outer s H E hr => (fun (c : Cok (JJ G XG) (cxOf (L2.CX P w) P w K mg base n_Space_rest "Space.rest" (defScope s_Space_rest) fa cdv A outer s H E) (fun cls dd _ H' => E cls dd H') F Fi k) =>
    (ss_cons (ss_for c (si_any (I := II G XG K) (sx_attr c (c := 1) (i := 0) rfl nd_1 (sx_var (pv 0)))) (sg_nm c.nd) (ss_one (ss_set c.nd (sx_call c (f := i_less) rfl (sa_cons (sx_var (pv 1)) (sa_cons (sx_ix (I := II G XG K) (sx_var (pv 1)) (sx_call c (f := i_leading) rfl (sa_cons (sx_var (pv 2)) sa_nil))) (sa_cons (sx_var (pv 2)) sa_nil))))))) (ss_one (ss_ret (sx_var (pv 1)))))) (cok_of T sc_Space_rest hr)
theorem ok_Space_has (hF : Fun K "has" "Space.has" s_Space_has fa fd) (T : Tb (JJ G XG) P w K mg base F Fi k) (he : ∀ ws S, F1 i_Space_has ws S = runDef 2 2 (c_Space_has F Fi) ws S) : FnOk P w K mg base (L2.CX P w) (k + 2) fa fd [("self" : Str), ("row" : Str)] (spOf (II G XG K) F1 i_Space_has 2) :=
  def_ok hF sc_Space_has rfl he fun cdv A outer s H E hr => (fun (c : Cok (JJ G XG) (cxOf (L2.CX P w) P w K mg base n_Space_has "Space.has" (defScope s_Space_has) fa cdv A outer s H E) (fun cls dd _ H' => E cls dd H') F Fi k) =>
    (ss_one (ss_ret (sx_cmp (o_ownEq c (f := i_Ratio___eq__) (c := 0) rfl (o_eqG (I := II G XG K) (units64 c.room))) (sx_call c (f := i_leading) rfl (sa_cons (sx_meth c (f := i_Space_rest) (c := 1) rfl (by decide +kernel : ("rest" : Str) ∉ SG.fl 1) (sx_var (pv 0)) (sa_cons (sx_var (pv 1)) sa_nil)) sa_nil)) (sx_fn (c_len (I := II G XG K)) c rfl bt_len (sa_cons (sx_var (pv 1)) sa_nil)))))) (cok_of T sc_Space_has hr)
theorem ok_Space_grow (hF : Fun K "grow" "Space.grow" s_Space_grow fa fd) (T : Tb (JJ G XG) P w K mg base F Fi k) (he : ∀ ws S, F1 i_Space_grow ws S = runDef 5 2 (c_Space_grow F Fi) ws S) : FnOk P w K mg base (L2.CX P w) (k + 2) fa fd [("self" : Str), ("row" : Str)] (spOf (II G XG K) F1 i_Space_grow 2) :=
  def_ok hF sc_Space_grow rfl he fun cdv A outer s H E hr => (fun (c : Cok (JJ G XG) (cxOf (L2.CX P w) P w K mg base n_Space_grow "Space.grow" (defScope s_Space_grow) fa cdv A outer s H E) (fun cls dd _ H' => E cls dd H') F Fi k) =>
    (ss_cons (ss_set c.nd (sx_meth c (f := i_Space_rest) (c := 1) rfl (by decide +kernel : ("rest" : Str) ∉ SG.fl 1) (sx_var (pv 0)) (sa_cons (sx_var (pv 1)) sa_nil))) (ss_cons (ss_set c.nd (sx_call c (f := i_leading) rfl (sa_cons (sx_var (pv 1)) sa_nil))) (ss_cons (ss_if (st_cmp (o_ownEq c (f := i_Ratio___eq__) (c := 0) rfl (o_eqG (I := II G XG K) (units64 c.room))) (sx_var (pv 2)) (sx_fn (c_len (I := II G XG K)) c rfl bt_len (sa_cons (sx_var (pv 1)) sa_nil))) (ss_one (ss_ret sx_bl)) ss_nil) (ss_cons (ss_set c.nd (sx_call c (f := i_scaled_row) rfl (sa_cons (sx_var (pv 1)) (sa_cons (sx_meth c (f := i_Ratio_over) (c := 0) rfl (by decide +kernel : ("over" : Str) ∉ SG.fl 0) (sx_mkF c (x := "Ratio") (dfl := [.int 1]) (dvs := [.int 1]) rfl (by decide +kernel) (fun _ => (.cons (.int _) .nil)) rfl (sa_cons sx_int sa_nil)) (sa_cons (sx_ix (I := II G XG K) (sx_var (pv 1)) (sx_var (pv 2))) sa_nil)) sa_nil)))) (ss_cons (ss_comp .plain c (own := [("kept", 4)]) (si_any (I := II G XG K) (sx_attr c (c := 1) (i := 0) rfl nd_1 (sx_var (pv 0)))) (by decide) (blkOk_by (N := n_Space_grow) (sc := defScope s_Space_grow) (by decide +kernel)) (fun _ _ _ _ _ => (sg_nm (c.blk _ _ _ _ _).nd)) (fun _ _ _ _ _ => sts_nil) (fun _ _ _ _ _ => (sx_call (c.blk _ _ _ _ _) (f := i_less) rfl (sa_cons (sx_var (pv 4)) (sa_cons (sx_ix (I := II G XG K) (sx_var (pv 4)) (sx_var (pv 2))) (sa_cons (sx_var (pv 1)) sa_nil)))))) (ss_cons (ss_fld c (c := 1) (i := 0) rfl nd_1 ln_1 (sx_var (pv 0)) (sx_ty (c_tuple (I := II G XG K)) c rfl bt_tuple (sa_cons (sx_sortK c (f := i_leading) rfl rfl (sx_op (o_own c (f := i_Ratio___add__) (c := 0) rfl rfl (o_add (I := II G XG K))) (sx_var (pv 3)) (sx_lst (sa_cons (sx_var (pv 1)) sa_nil)))) sa_nil))) (ss_one (ss_ret sx_bl))))))))) (cok_of T sc_Space_grow hr)
theorem ok_space_of (hF : Fun K "space_of" "space_of" s_space_of fa fd) (T : Tb (JJ G XG) P w K mg base F Fi k) (he : ∀ ws S, F1 i_space_of ws S = runDef 3 1 (c_space_of F Fi) ws S) : FnOk P w K mg base (L2.CX P w) (k + 2) fa fd [("rows" : Str)] (spOf (II G XG K) F1 i_space_of 1) :=
  def_ok hF sc_space_of rfl he fun cdv A outer s H E hr => (fun (c : Cok (JJ G XG) (cxOf (L2.CX P w) P w K mg base n_space_of "space_of" (defScope s_space_of) fa cdv A outer s H E) (fun cls dd _ H' => E cls dd H') F Fi k) =>
    (ss_cons (ss_set c.nd (sx_mkC0 c (x := "Space") (dfl := []) (dvs := []) rfl (by decide +kernel) (fun _ => .nil))) (ss_cons (ss_for c (si_any (I := II G XG K) (sx_var (pv 0))) (sg_nm c.nd) (ss_one (ss_expr (sx_meth c (f := i_Space_grow) (c := 1) rfl (by decide +kernel : ("grow" : Str) ∉ SG.fl 1) (sx_var (pv 1)) (sa_cons (sx_var (pv 2)) sa_nil))))) (ss_one (ss_frzI rfl (ss_ret (sx_var (pv 1)))))))) (cok_of T sc_space_of hr)
theorem ok_reduced (hF : Fun K "reduced" "reduced" s_reduced fa fd) (T : Tb (JJ G XG) P w K mg base F Fi k) (he : ∀ ws S, F1 i_reduced ws S = runDef 1 1 (c_reduced F Fi) ws S) : FnOk P w K mg base (L2.CX P w) (k + 2) fa fd [("rows" : Str)] (spOf (II G XG K) F1 i_reduced 1) :=
  def_ok hF sc_reduced rfl he fun cdv A outer s H E hr => (fun (c : Cok (JJ G XG) (cxOf (L2.CX P w) P w K mg base n_reduced "reduced" (defScope s_reduced) fa cdv A outer s H E) (fun cls dd _ H' => E cls dd H') F Fi k) =>
    (ss_one (ss_ret (sx_attr c (c := 1) (i := 0) rfl nd_1 (sx_call c (f := i_space_of) rfl (sa_cons (sx_var (pv 0)) sa_nil)))))) (cok_of T sc_reduced hr)
theorem ok_rank (hF : Fun K "rank" "rank" s_rank fa fd) (T : Tb (JJ G XG) P w K mg base F Fi k) (he : ∀ ws S, F1 i_rank ws S = runDef 1 1 (c_rank F Fi) ws S) : FnOk P w K mg base (L2.CX P w) (k + 2) fa fd [("rows" : Str)] (spOf (II G XG K) F1 i_rank 1) :=
  def_ok hF sc_rank rfl he fun cdv A outer s H E hr => (fun (c : Cok (JJ G XG) (cxOf (L2.CX P w) P w K mg base n_rank "rank" (defScope s_rank) fa cdv A outer s H E) (fun cls dd _ H' => E cls dd H') F Fi k) =>
    (ss_one (ss_ret (sx_fn (c_len (I := II G XG K)) c rfl bt_len (sa_cons (sx_call c (f := i_reduced) rfl (sa_cons (sx_var (pv 0)) sa_nil)) sa_nil))))) (cok_of T sc_rank hr)
theorem ok_solve (hF : Fun K "solve" "solve" s_solve fa fd) (T : Tb (JJ G XG) P w K mg base F Fi k) (he : ∀ ws S, F1 i_solve ws S = runDef 11 2 (c_solve F Fi) ws S) : FnOk P w K mg base (L2.CX P w) (k + 2) fa fd [("rows" : Str), ("wanted" : Str)] (spOf (II G XG K) F1 i_solve 2) :=
  def_ok hF sc_solve rfl he fun cdv A outer s H E hr => (fun (c : Cok (JJ G XG) (cxOf (L2.CX P w) P w K mg base n_solve "solve" (defScope s_solve) fa cdv A outer s H E) (fun cls dd _ H' => E cls dd H') F Fi k) =>
    (ss_cons (ss_set c.nd (sx_fn (c_len (I := II G XG K)) c rfl bt_len (sa_cons (sx_var (pv 0)) sa_nil))) (ss_cons (ss_set c.nd (sx_call c (f := i_unit) rfl (sa_cons (sx_var (pv 2)) sa_nil))) (ss_cons (ss_set c.nd (sx_call c (f := i_space_of) rfl (sa_cons (sx_comp c (own := [("at", 7), ("row", 8)]) (si_enumerate c rfl (sx_var (pv 0))) (by decide) (blkOk_by (N := n_solve) (sc := defScope s_solve) (by decide +kernel)) (fun _ _ _ _ _ => (sg_tp (I := II G XG K) (c.blk _ _ _ _ _).calm (sgs_cons (sg_nm (c.blk _ _ _ _ _).nd) (sgs_cons (sg_nm (c.blk _ _ _ _ _).nd) sgs_nil)) (gCons_len (gCons_len gNil_len)))) (fun _ _ _ _ _ => sts_nil) (fun _ _ _ _ _ => (sx_op (o_own (c.blk _ _ _ _ _) (f := i_Ratio___add__) (c := 0) rfl rfl (o_add (I := II G XG K))) (sx_ty (c_tuple (I := II G XG K)) (c.blk _ _ _ _ _) rfl bt_tuple (sa_cons (sx_var (pv 8)) sa_nil)) (sx_ix (I := II G XG K) (sx_var (pv 3)) (sx_var (pv 7)))))) sa_nil))) (ss_cons (ss_set c.nd (sx_meth c (f := i_Space_rest) (c := 1) rfl (by decide +kernel : ("rest" : Str) ∉ SG.fl 1) (sx_var (pv 4)) (sa_cons (sx_op (o_own c (f := i_Ratio___add__) (c := 0) rfl rfl (o_add (I := II G XG K))) (sx_ty (c_tuple (I := II G XG K)) c rfl bt_tuple (sa_cons (sx_var (pv 1)) sa_nil)) (sx_ty (c_tuple (I := II G XG K)) c rfl bt_tuple (sa_cons (sx_comp c (own := [("_", 10)]) (si_range1 c rfl (sx_var (pv 2))) (by decide) (blkOk_by (N := n_solve) (sc := defScope s_solve) (by decide +kernel)) (fun _ _ _ _ _ => (sg_nm (c.blk _ _ _ _ _).nd)) (fun _ _ _ _ _ => sts_nil) (fun _ _ _ _ _ => (sx_mkF (c.blk _ _ _ _ _) (x := "Ratio") (dfl := [.int 1]) (dvs := [.int 1]) rfl (by decide +kernel) (fun _ => (.cons (.int _) .nil)) rfl (sa_cons sx_int sa_nil)))) sa_nil))) sa_nil))) (ss_cons (ss_set c.nd (sx_fn (c_len (I := II G XG K)) c rfl bt_len (sa_cons (sx_var (pv 1)) sa_nil))) (ss_cons (ss_if (st_cmp (o_lt (I := II G XG K)) (sx_call c (f := i_leading) rfl (sa_cons (sx_var (pv 5)) sa_nil)) (sx_var (pv 6))) (ss_one (ss_ret sx_non)) ss_nil) (ss_one (ss_ret (sx_ty (c_tuple (I := II G XG K)) c rfl bt_tuple (sa_cons (sx_comp c (own := [("number", 9)]) (si_any (I := II G XG K) (sx_sl (I := II G XG K) (sx_var (pv 5)) (so_some (sx_var (pv 6))) so_none)) (by decide) (blkOk_by (N := n_solve) (sc := defScope s_solve) (by decide +kernel)) (fun _ _ _ _ _ => (sg_nm (c.blk _ _ _ _ _).nd)) (fun _ _ _ _ _ => sts_nil) (fun _ _ _ _ _ => (sx_un (u_own (c.blk _ _ _ _ _) (f := i_Ratio___neg__) (c := 0) rfl (u_neg (I := II G XG K))) (sx_var (pv 9))))) sa_nil))))))))))) (cok_of T sc_solve hr)
theorem ok_inverse (hF : Fun K "inverse" "inverse" s_inverse fa fd) (T : Tb (JJ G XG) P w K mg base F Fi k) (he : ∀ ws S, F1 i_inverse ws S = runDef 3 1 (c_inverse F Fi) ws S) : FnOk P w K mg base (L2.CX P w) (k + 2) fa fd [("table" : Str)] (spOf (II G XG K) F1 i_inverse 1) :=
  def_ok hF sc_inverse rfl he fun cdv A outer s H E hr => (fun (c : Cok (JJ G XG) (cxOf (L2.CX P w) P w K mg base n_inverse "inverse" (defScope s_inverse) fa cdv A outer s H E) (fun cls dd _ H' => E cls dd H') F Fi k) =>
    (ss_cons (ss_set c.nd (sx_fn (c_len (I := II G XG K)) c rfl bt_len (sa_cons (sx_var (pv 0)) sa_nil))) (ss_cons (ss_if (st_cmp (o_lt (I := II G XG K)) (sx_call c (f := i_rank) rfl (sa_cons (sx_var (pv 0)) sa_nil)) (sx_var (pv 1))) (ss_one (ss_ret sx_non)) ss_nil) (ss_one (ss_ret (sx_ty (c_tuple (I := II G XG K)) c rfl bt_tuple (sa_cons (sx_comp c (own := [("row", 2)]) (si_any (I := II G XG K) (sx_call c (f := i_unit) rfl (sa_cons (sx_var (pv 1)) sa_nil))) (by decide) (blkOk_by (N := n_inverse) (sc := defScope s_inverse) (by decide +kernel)) (fun _ _ _ _ _ => (sg_nm (c.blk _ _ _ _ _).nd)) (fun _ _ _ _ _ => sts_nil) (fun _ _ _ _ _ => (sx_call (c.blk _ _ _ _ _) (f := i_solve) rfl (sa_cons (sx_var (pv 0)) (sa_cons (sx_var (pv 2)) sa_nil))))) sa_nil))))))) (cok_of T sc_inverse hr)
theorem ok__law_feed (hF : Fun K "_law_feed" "_law_feed" s__law_feed fa fd) (T : Tb (JJ G XG) P w K mg base F Fi k) (he : ∀ ws S, F1 i__law_feed ws S = runDef 2 1 (c__law_feed F Fi) ws S) : FnOk P w K mg base (L2.CX P w) (k + 2) fa fd [("script" : Str)] (spOf (II G XG K) F1 i__law_feed 1) :=
  def_ok hF sc__law_feed rfl he fun cdv A outer s H E hr => (fun (c : Cok (JJ G XG) (cxOf (L2.CX P w) P w K mg base n__law_feed "_law_feed" (defScope s__law_feed) fa cdv A outer s H E) (fun cls dd _ H' => E cls dd H') F Fi k) =>
    (ss_one (ss_ret (sx_lstC (sa_cons (sx_comp c (own := [("cell", 1)]) (si_any (I := II G XG K) (sx_sl (I := II G XG K) (sx_var (pv 0)) so_none (so_some sx_int))) (by decide) (blkOk_by (N := n__law_feed) (sc := defScope s__law_feed) (by decide +kernel)) (fun _ _ _ _ _ => (sg_nm (c.blk _ _ _ _ _).nd)) (fun _ _ _ _ _ => sts_nil) (fun _ _ _ _ _ => (sx_fn (c_abs (I := II G XG K)) (c.blk _ _ _ _ _) rfl bt_abs (sa_cons (sx_var (pv 1)) sa_nil)))) (sa_cons sx_int (sa_cons sx_int (sa_cons (sx_op (o_own c (f := i_Ratio___add__) (c := 0) rfl rfl (o_add (I := II G XG K))) sx_int (sx_fn (c_len (I := II G XG K)) c rfl bt_len (sa_cons (sx_var (pv 0)) sa_nil))) sa_nil)))))))) (cok_of T sc__law_feed hr)
theorem ok__law_draw (hF : Fun K "_law_draw" "_law_draw" s__law_draw fa fd) (T : Tb (JJ G XG) P w K mg base F Fi k) (he : ∀ ws S, F1 i__law_draw ws S = runDef 5 2 (c__law_draw F Fi) ws S) : FnOk P w K mg base (L2.CX P w) (k + 2) fa fd [("feed" : Str), ("limit" : Str)] (spOf (II G XG K) F1 i__law_draw 2) :=
  def_ok hF sc__law_draw rfl he fun cdv A outer s H E hr => (fun (c : Cok (JJ G XG) (cxOf (L2.CX P w) P w K mg base n__law_draw "_law_draw" (defScope s__law_draw) fa cdv A outer s H E) (fun cls dd _ H' => E cls dd H') F Fi k) =>
    (ss_cons (ss_set c.nd (sx_ix (I := II G XG K) (sx_var (pv 0)) sx_int)) (ss_cons (ss_if (st_and (st_cmp (o_ownEq c (f := i_Ratio___eq__) (c := 0) rfl (o_eqG (I := II G XG K) (units64 c.room))) (sx_ix (I := II G XG K) (sx_var (pv 0)) sx_int) sx_int) (st_and1 (st_cmp (o_lt (I := II G XG K)) (sx_ix (I := II G XG K) (sx_var (pv 0)) sx_int) (sx_fn (c_len (I := II G XG K)) c rfl bt_len (sa_cons (sx_var (pv 2)) sa_nil))))).pt (ss_cons (ss_set c.nd (sx_ix (I := II G XG K) (sx_var (pv 2)) (sx_ix (I := II G XG K) (sx_var (pv 0)) sx_int))) (ss_cons (ss_sub (sx_op (o_own c (f := i_Ratio___add__) (c := 0) rfl rfl (o_add (I := II G XG K))) (sx_ix (I := II G XG K) (sx_var (pv 0)) sx_int) sx_int) (sx_var (pv 0)) sx_int) (ss_one (ss_if (st_cmp (o_ge (I := II G XG K)) (sx_var (pv 3)) (sx_op (o_pow (I := II G XG K)) sx_int sx_int)) (ss_one (ss_sub (sx_var (pv 3)) (sx_var (pv 0)) sx_int)) (ss_one (ss_sub (sx_op (o_mod (I := II G XG K)) (sx_ty (c_int (I := II G XG K)) c rfl bt_int (sa_cons (sx_op (o_own c (f := i_Ratio___add__) (c := 0) rfl rfl (o_add (I := II G XG K))) (sx_op (o_own c (f := i_Ratio___add__) (c := 0) rfl rfl (o_add (I := II G XG K))) (sx_op (o_own c (f := i_Ratio___mul__) (c := 0) rfl rfl (o_mul (I := II G XG K))) (sx_ix (I := II G XG K) (sx_var (pv 0)) sx_int) sx_int) (sx_op (o_own c (f := i_Ratio___mul__) (c := 0) rfl rfl (o_mul (I := II G XG K))) (sx_var (pv 3)) sx_int)) sx_int) sa_nil)) sx_int) (sx_var (pv 0)) sx_int)))))) ss_nil) (ss_cons (ss_if (st_cmp (o_gt (I := II G XG K)) (sx_ix (I := II G XG K) (sx_var (pv 0)) sx_int) sx_int) (ss_cons (ss_set c.nd (sx_op (o_mod (I := II G XG K)) (sx_ty (c_int (I := II G XG K)) c rfl bt_int (sa_cons (sx_ix (I := II G XG K) (sx_var (pv 0)) sx_int) sa_nil)) (sx_var (pv 1)))) (ss_cons (ss_sub (sx_op (o_div c (I := II G XG K)) (sx_ix (I := II G XG K) (sx_var (pv 0)) sx_int) (sx_var (pv 1))) (sx_var (pv 0)) sx_int) (ss_one (ss_ret (sx_var (pv 4)))))) ss_nil) (ss_cons (ss_sub (sx_op (o_mod (I := II G XG K)) (sx_ty (c_int (I := II G XG K)) c rfl bt_int (sa_cons (sx_op (o_own c (f := i_Ratio___add__) (c := 0) rfl rfl (o_add (I := II G XG K))) (sx_op (o_own c (f := i_Ratio___mul__) (c := 0) rfl rfl (o_mul (I := II G XG K))) (sx_ix (I := II G XG K) (sx_var (pv 0)) sx_int) sx_int) sx_int) sa_nil)) sx_int) (sx_var (pv 0)) sx_int) (ss_one (ss_ret (sx_op (o_mod (I := II G XG K)) (sx_ty (c_int (I := II G XG K)) c rfl bt_int (sa_cons (sx_op (o_own c (f := i_Ratio___add__) (c := 0) rfl rfl (o_add (I := II G XG K))) (sx_op (o_div c (I := II G XG K)) (sx_op (o_own c (f := i_Ratio___mul__) (c := 0) rfl rfl (o_mul (I := II G XG K))) (sx_ix (I := II G XG K) (sx_var (pv 0)) sx_int) (sx_ix (I := II G XG K) (sx_var (pv 0)) sx_int)) sx_int) (sx_op (o_div c (I := II G XG K)) (sx_ix (I := II G XG K) (sx_var (pv 0)) sx_int) sx_int)) sa_nil)) (sx_var (pv 1)))))))))) (cok_of T sc__law_draw hr)
theorem ok__law_great (hF : Fun K "_law_great" "_law_great" s__law_great fa fd) (T : Tb (JJ G XG) P w K mg base F Fi k) (he : ∀ ws S, F1 i__law_great ws S = runDef 4 2 (c__law_great F Fi) ws S) : FnOk P w K mg base (L2.CX P w) (k + 2) fa fd [("feed" : Str), ("parts" : Str)] (spOf (II G XG K) F1 i__law_great 2) :=
  def_ok hF sc__law_great rfl he fun cdv A outer s H E hr => (fun (c : Cok (JJ G XG) (cxOf (L2.CX P w) P w K mg base n__law_great "_law_great" (defScope s__law_great) fa cdv A outer s H E) (fun cls dd _ H' => E cls dd H') F Fi k) =>
    (ss_cons (ss_set c.nd sx_int) (ss_cons (ss_for c (si_range1 c rfl (sx_var (pv 1))) (sg_nm c.nd) (ss_one (ss_set c.nd (sx_op (o_own c (f := i_Ratio___add__) (c := 0) rfl rfl (o_add (I := II G XG K))) (sx_op (o_own c (f := i_Ratio___mul__) (c := 0) rfl rfl (o_mul (I := II G XG K))) (sx_var (pv 2)) sx_int) (sx_call c (f := i__law_draw) rfl (sa_cons (sx_var (pv 0)) (sa_cons sx_int sa_nil))))))) (ss_one (ss_ret (sx_var (pv 2))))))) (cok_of T sc__law_great hr)
theorem ok__law_pair (hF : Fun K "_law_pair" "_law_pair" s__law_pair fa fd) (T : Tb (JJ G XG) P w K mg base F Fi k) (he : ∀ ws S, F1 i__law_pair ws S = runDef 4 2 (c__law_pair F Fi) ws S) : FnOk P w K mg base (L2.CX P w) (k + 2) fa fd [("above" : Str), ("below" : Str)] (spOf (II G XG K) F1 i__law_pair 2) :=
  def_ok hF sc__law_pair rfl he fun cdv A outer s H E hr => (fun (c : Cok (JJ G XG) (cxOf (L2.CX P w) P w K mg base n__law_pair "_law_pair" (defScope s__law_pair) fa cdv A outer s H E) (fun cls dd _ H' => E cls dd H') F Fi k) =>
    (ss_cons (ss_set c.nd (sx_fn (c_abs (I := II G XG K)) c rfl bt_abs (sa_cons (sx_var (pv 0)) sa_nil))) (ss_cons (ss_set c.nd (sx_fn (c_abs (I := II G XG K)) c rfl bt_abs (sa_cons (sx_var (pv 1)) sa_nil))) (ss_cons (ss_while c (st_cmp (o_gt (I := II G XG K)) (sx_var (pv 3)) sx_int) (ss_one (ss_par c.calm c.nd (by decide) (sx_var (pv 3)) (sx_op (o_mod (I := II G XG K)) (sx_ty (c_int (I := II G XG K)) c rfl bt_int (sa_cons (sx_var (pv 2)) sa_nil)) (sx_var (pv 3)))))) (ss_cons (ss_if (st_cmp (o_lt (I := II G XG K)) (sx_var (pv 1)) sx_int) (ss_one (ss_set c.nd (sx_op (o_own c (f := i_Ratio___sub__) (c := 0) rfl rfl (o_sub (I := II G XG K))) sx_int (sx_var (pv 2))))) ss_nil) (ss_one (ss_ret (sx_tup (sa_cons (sx_op (o_div c (I := II G XG K)) (sx_var (pv 0)) (sx_var (pv 2))) (sa_cons (sx_op (o_div c (I := II G XG K)) (sx_var (pv 1)) (sx_var (pv 2))) sa_nil)))))))))) (cok_of T sc__law_pair hr)
theorem ok__law_sum (hF : Fun K "_law_sum" "_law_sum" s__law_sum fa fd) (T : Tb (JJ G XG) P w K mg base F Fi k) (he : ∀ ws S, F1 i__law_sum ws S = runDef 2 2 (c__law_sum F Fi) ws S) : FnOk P w K mg base (L2.CX P w) (k + 2) fa fd [("one" : Str), ("two" : Str)] (spOf (II G XG K) F1 i__law_sum 2) :=
  def_ok hF sc__law_sum rfl he fun cdv A outer s H E hr => (fun (c : Cok (JJ G XG) (cxOf (L2.CX P w) P w K mg base n__law_sum "_law_sum" (defScope s__law_sum) fa cdv A outer s H E) (fun cls dd _ H' => E cls dd H') F Fi k) =>
    (ss_cons (ss_if (st_and (st_cmp (o_ownEq c (f := i_Ratio___eq__) (c := 0) rfl (o_eqG (I := II G XG K) (units64 c.room))) (sx_ix (I := II G XG K) (sx_var (pv 0)) sx_int) sx_int) (st_and1 (st_cmp (o_ownEq c (f := i_Ratio___eq__) (c := 0) rfl (o_eqG (I := II G XG K) (units64 c.room))) (sx_ix (I := II G XG K) (sx_var (pv 1)) sx_int) sx_int))).pt (ss_one (ss_ret (sx_tup (sa_cons (sx_op (o_own c (f := i_Ratio___add__) (c := 0) rfl rfl (o_add (I := II G XG K))) (sx_ix (I := II G XG K) (sx_var (pv 0)) sx_int) (sx_ix (I := II G XG K) (sx_var (pv 1)) sx_int)) (sa_cons sx_int sa_nil))))) ss_nil) (ss_one (ss_ret (sx_call c (f := i__law_pair) rfl (sa_cons (sx_op (o_own c (f := i_Ratio___add__) (c := 0) rfl rfl (o_add (I := II G XG K))) (sx_op (o_own c (f := i_Ratio___mul__) (c := 0) rfl rfl (o_mul (I := II G XG K))) (sx_ix (I := II G XG K) (sx_var (pv 0)) sx_int) (sx_ix (I := II G XG K) (sx_var (pv 1)) sx_int)) (sx_op (o_own c (f := i_Ratio___mul__) (c := 0) rfl rfl (o_mul (I := II G XG K))) (sx_ix (I := II G XG K) (sx_var (pv 1)) sx_int) (sx_ix (I := II G XG K) (sx_var (pv 0)) sx_int))) (sa_cons (sx_op (o_own c (f := i_Ratio___mul__) (c := 0) rfl rfl (o_mul (I := II G XG K))) (sx_ix (I := II G XG K) (sx_var (pv 0)) sx_int) (sx_ix (I := II G XG K) (sx_var (pv 1)) sx_int)) sa_nil))))))) (cok_of T sc__law_sum hr)
theorem ok__law_by (hF : Fun K "_law_by" "_law_by" s__law_by fa fd) (T : Tb (JJ G XG) P w K mg base F Fi k) (he : ∀ ws S, F1 i__law_by ws S = runDef 2 2 (c__law_by F Fi) ws S) : FnOk P w K mg base (L2.CX P w) (k + 2) fa fd [("one" : Str), ("two" : Str)] (spOf (II G XG K) F1 i__law_by 2) :=
  def_ok hF sc__law_by rfl he fun cdv A outer s H E hr => (fun (c : Cok (JJ G XG) (cxOf (L2.CX P w) P w K mg base n__law_by "_law_by" (defScope s__law_by) fa cdv A outer s H E) (fun cls dd _ H' => E cls dd H') F Fi k) =>
    (ss_cons (ss_if (st_and (st_cmp (o_ownEq c (f := i_Ratio___eq__) (c := 0) rfl (o_eqG (I := II G XG K) (units64 c.room))) (sx_ix (I := II G XG K) (sx_var (pv 0)) sx_int) sx_int) (st_and1 (st_cmp (o_ownEq c (f := i_Ratio___eq__) (c := 0) rfl (o_eqG (I := II G XG K) (units64 c.room))) (sx_ix (I := II G XG K) (sx_var (pv 1)) sx_int) sx_int))).pt (ss_one (ss_ret (sx_tup (sa_cons (sx_op (o_own c (f := i_Ratio___mul__) (c := 0) rfl rfl (o_mul (I := II G XG K))) (sx_ix (I := II G XG K) (sx_var (pv 0)) sx_int) (sx_ix (I := II G XG K) (sx_var (pv 1)) sx_int)) (sa_cons sx_int sa_nil))))) ss_nil) (ss_one (ss_ret (sx_call c (f := i__law_pair) rfl (sa_cons (sx_op (o_own c (f := i_Ratio___mul__) (c := 0) rfl rfl (o_mul (I := II G XG K))) (sx_ix (I := II G XG K) (sx_var (pv 0)) sx_int) (sx_ix (I := II G XG K) (sx_var (pv 1)) sx_int)) (sa_cons (sx_op (o_own c (f := i_Ratio___mul__) (c := 0) rfl rfl (o_mul (I := II G XG K))) (sx_ix (I := II G XG K) (sx_var (pv 0)) sx_int) (sx_ix (I := II G XG K) (sx_var (pv 1)) sx_int)) sa_nil))))))) (cok_of T sc__law_by hr)
theorem ok__law_is_integer (hF : Fun K "_law_is_integer" "_law_is_integer" s__law_is_integer fa fd) (T : Tb (JJ G XG) P w K mg base F Fi k) (he : ∀ ws S, F1 i__law_is_integer ws S = runDef 1 1 (c__law_is_integer F Fi) ws S) : FnOk P w K mg base (L2.CX P w) (k + 2) fa fd [("actual" : Str)] (spOf (II G XG K) F1 i__law_is_integer 1) :=
  def_ok hF sc__law_is_integer rfl he fun cdv A outer s H E hr => (fun (c : Cok (JJ G XG) (cxOf (L2.CX P w) P w K mg base n__law_is_integer "_law_is_integer" (defScope s__law_is_integer) fa cdv A outer s H E) (fun cls dd _ H' => E cls dd H') F Fi k) =>
    (ss_one (ss_ret (sx_and (sx_isT (T' := Ty.int) c rfl (by decide) rfl rfl bt_int (sx_var (pv 0))) (sx_one (sx_not (sx_isT (T' := Ty.bl) c rfl (by decide) rfl rfl bt_bool (sx_var (pv 0))))))))) (cok_of T sc__law_is_integer hr)
theorem ok__law_same (hF : Fun K "_law_same" "_law_same" s__law_same fa fd) (T : Tb (JJ G XG) P w K mg base F Fi k) (he : ∀ ws S, F1 i__law_same ws S = runDef 2 2 (c__law_same F Fi) ws S) : FnOk P w K mg base (L2.CX P w) (k + 2) fa fd [("actual" : Str), ("due" : Str)] (spOf (II G XG K) F1 i__law_same 2) :=
  def_ok hF sc__law_same rfl he fun cdv A outer s H E hr => (fun (c : Cok (JJ G XG) (cxOf (L2.CX P w) P w K mg base n__law_same "_law_same" (defScope s__law_same) fa cdv A outer s H E) (fun cls dd _ H' => E cls dd H') F Fi k) =>
    (ss_cons (ss_if (st_not (st_tr (truO_ne _ _ _) (tr_own c (f := i_Ratio___bool__) (c := 0) rfl) (sx_isC c rfl rfl (sx_var (pv 0))))) (ss_one (ss_ret sx_bl)) ss_nil) (ss_cons (ss_if (st_or (st_not (st_tr (truO_ne _ _ _) (tr_own c (f := i_Ratio___bool__) (c := 0) rfl) (sx_call c (f := i__law_is_integer) rfl (sa_cons (sx_attr c (c := 0) (i := 0) rfl nd_0 (sx_var (pv 0))) sa_nil)))) (st_or1 (st_not (st_tr (truO_ne _ _ _) (tr_own c (f := i_Ratio___bool__) (c := 0) rfl) (sx_call c (f := i__law_is_integer) rfl (sa_cons (sx_attr c (c := 0) (i := 1) rfl nd_0 (sx_var (pv 0))) sa_nil)))))).pt (ss_one (ss_ret sx_bl)) ss_nil) (ss_one (ss_ret (sx_and (sx_cmp (o_ownEq c (f := i_Ratio___eq__) (c := 0) rfl (o_eqG (I := II G XG K) (units64 c.room))) (sx_attr c (c := 0) (i := 0) rfl nd_0 (sx_var (pv 0))) (sx_ix (I := II G XG K) (sx_var (pv 1)) sx_int)) (sx_one (sx_cmp (o_ownEq c (f := i_Ratio___eq__) (c := 0) rfl (o_eqG (I := II G XG K) (units64 c.room))) (sx_attr c (c := 0) (i := 1) rfl nd_0 (sx_var (pv 0))) (sx_ix (I := II G XG K) (sx_var (pv 1)) sx_int))))))))) (cok_of T sc__law_same hr)
theorem ok__law_same_row (hF : Fun K "_law_same_row" "_law_same_row" s__law_same_row fa fd) (T : Tb (JJ G XG) P w K mg base F Fi k) (he : ∀ ws S, F1 i__law_same_row ws S = runDef 3 2 (c__law_same_row F Fi) ws S) : FnOk P w K mg base (L2.CX P w) (k + 2) fa fd [("actual" : Str), ("due" : Str)] (spOf (II G XG K) F1 i__law_same_row 2) :=
  def_ok hF sc__law_same_row rfl he fun cdv A outer s H E hr => (fun (c : Cok (JJ G XG) (cxOf (L2.CX P w) P w K mg base n__law_same_row "_law_same_row" (defScope s__law_same_row) fa cdv A outer s H E) (fun cls dd _ H' => E cls dd H') F Fi k) =>
    (ss_cons (ss_if (st_or (st_not (st_tr (truO_ne _ _ _) (tr_own c (f := i_Ratio___bool__) (c := 0) rfl) (sx_isT (T' := Ty.tup) c rfl (by decide) rfl rfl bt_tuple (sx_var (pv 0))))) (st_or1 (st_cmp (o_neG (I := II G XG K) (units64 c.room)) (sx_fn (c_len (I := II G XG K)) c rfl bt_len (sa_cons (sx_var (pv 0)) sa_nil)) (sx_fn (c_len (I := II G XG K)) c rfl bt_len (sa_cons (sx_var (pv 1)) sa_nil))))).pt (ss_one (ss_ret sx_bl)) ss_nil) (ss_cons (ss_for c (si_range1 c rfl (sx_fn (c_len (I := II G XG K)) c rfl bt_len (sa_cons (sx_var (pv 1)) sa_nil))) (sg_nm c.nd) (ss_one (ss_if (st_not (st_tr (truO_ne _ _ _) (tr_own c (f := i_Ratio___bool__) (c := 0) rfl) (sx_call c (f := i__law_same) rfl (sa_cons (sx_ix (I := II G XG K) (sx_var (pv 0)) (sx_var (pv 2))) (sa_cons (sx_ix (I := II G XG K) (sx_var (pv 1)) (sx_var (pv 2))) sa_nil))))) (ss_one (ss_ret sx_bl)) ss_nil))) (ss_one (ss_ret sx_bl))))) (cok_of T sc__law_same_row hr)
theorem ok__law_same_table (hF : Fun K "_law_same_table" "_law_same_table" s__law_same_table fa fd) (T : Tb (JJ G XG) P w K mg base F Fi k) (he : ∀ ws S, F1 i__law_same_table ws S = runDef 3 2 (c__law_same_table F Fi) ws S) : FnOk P w K mg base (L2.CX P w) (k + 2) fa fd [("actual" : Str), ("due" : Str)] (spOf (II G XG K) F1 i__law_same_table 2) :=
  def_ok hF sc__law_same_table rfl he fun cdv A outer s H E hr => (fun (c : Cok (JJ G XG) (cxOf (L2.CX P w) P w K mg base n__law_same_table "_law_same_table" (defScope s__law_same_table) fa cdv A outer s H E) (fun cls dd _ H' => E cls dd H') F Fi k) =>
    (ss_cons (ss_if (st_or (st_not (st_tr (truO_ne _ _ _) (tr_own c (f := i_Ratio___bool__) (c := 0) rfl) (sx_isT (T' := Ty.tup) c rfl (by decide) rfl rfl bt_tuple (sx_var (pv 0))))) (st_or1 (st_cmp (o_neG (I := II G XG K) (units64 c.room)) (sx_fn (c_len (I := II G XG K)) c rfl bt_len (sa_cons (sx_var (pv 0)) sa_nil)) (sx_fn (c_len (I := II G XG K)) c rfl bt_len (sa_cons (sx_var (pv 1)) sa_nil))))).pt (ss_one (ss_ret sx_bl)) ss_nil) (ss_cons (ss_for c (si_range1 c rfl (sx_fn (c_len (I := II G XG K)) c rfl bt_len (sa_cons (sx_var (pv 1)) sa_nil))) (sg_nm c.nd) (ss_one (ss_if (st_not (st_tr (truO_ne _ _ _) (tr_own c (f := i_Ratio___bool__) (c := 0) rfl) (sx_call c (f := i__law_same_row) rfl (sa_cons (sx_ix (I := II G XG K) (sx_var (pv 0)) (sx_var (pv 2))) (sa_cons (sx_ix (I := II G XG K) (sx_var (pv 1)) (sx_var (pv 2))) sa_nil))))) (ss_one (ss_ret sx_bl)) ss_nil))) (ss_one (ss_ret sx_bl))))) (cok_of T sc__law_same_table hr)
theorem ok__law_ratios (hF : Fun K "_law_ratios" "_law_ratios" s__law_ratios fa fd) (T : Tb (JJ G XG) P w K mg base F Fi k) (he : ∀ ws S, F1 i__law_ratios ws S = runDef 2 1 (c__law_ratios F Fi) ws S) : FnOk P w K mg base (L2.CX P w) (k + 2) fa fd [("line" : Str)] (spOf (II G XG K) F1 i__law_ratios 1) :=
  def_ok hF sc__law_ratios rfl he fun cdv A outer s H E hr => (fun (c : Cok (JJ G XG) (cxOf (L2.CX P w) P w K mg base n__law_ratios "_law_ratios" (defScope s__law_ratios) fa cdv A outer s H E) (fun cls dd _ H' => E cls dd H') F Fi k) =>
    (ss_one (ss_ret (sx_ty (c_tuple (I := II G XG K)) c rfl bt_tuple (sa_cons (sx_comp c (own := [("one", 1)]) (si_any (I := II G XG K) (sx_var (pv 0))) (by decide) (blkOk_by (N := n__law_ratios) (sc := defScope s__law_ratios) (by decide +kernel)) (fun _ _ _ _ _ => (sg_nm (c.blk _ _ _ _ _).nd)) (fun _ _ _ _ _ => sts_nil) (fun _ _ _ _ _ => (sx_mkF (c.blk _ _ _ _ _) (x := "Ratio") (dfl := []) (dvs := []) rfl (by decide +kernel) (fun _ => .nil) rfl (sa_cons (sx_ix (I := II G XG K) (sx_var (pv 1)) sx_int) (sa_cons (sx_ix (I := II G XG K) (sx_var (pv 1)) sx_int) sa_nil))))) sa_nil))))) (cok_of T sc__law_ratios hr)
theorem ok__law_ratio_table (hF : Fun K "_law_ratio_table" "_law_ratio_table" s__law_ratio_table fa fd) (T : Tb (JJ G XG) P w K mg base F Fi k) (he : ∀ ws S, F1 i__law_ratio_table ws S = runDef 2 1 (c__law_ratio_table F Fi) ws S) : FnOk P w K mg base (L2.CX P w) (k + 2) fa fd [("lines" : Str)] (spOf (II G XG K) F1 i__law_ratio_table 1) :=
  def_ok hF sc__law_ratio_table rfl he fun cdv A outer s H E hr => (fun (c : Cok (JJ G XG) (cxOf (L2.CX P w) P w K mg base n__law_ratio_table "_law_ratio_table" (defScope s__law_ratio_table) fa cdv A outer s H E) (fun cls dd _ H' => E cls dd H') F Fi k) =>
    (ss_one (ss_ret (sx_ty (c_tuple (I := II G XG K)) c rfl bt_tuple (sa_cons (sx_comp c (own := [("line", 1)]) (si_any (I := II G XG K) (sx_var (pv 0))) (by decide) (blkOk_by (N := n__law_ratio_table) (sc := defScope s__law_ratio_table) (by decide +kernel)) (fun _ _ _ _ _ => (sg_nm (c.blk _ _ _ _ _).nd)) (fun _ _ _ _ _ => sts_nil) (fun _ _ _ _ _ => (sx_call (c.blk _ _ _ _ _) (f := i__law_ratios) rfl (sa_cons (sx_var (pv 1)) sa_nil)))) sa_nil))))) (cok_of T sc__law_ratio_table hr)
theorem ok__law_number (hF : Fun K "_law_number" "_law_number" s__law_number fa fd) (T : Tb (JJ G XG) P w K mg base F Fi k) (he : ∀ ws S, F1 i__law_number ws S = runDef 4 2 (c__law_number F Fi) ws S) : FnOk P w K mg base (L2.CX P w) (k + 2) fa fd [("feed" : Str), ("wide" : Str)] (spOf (II G XG K) F1 i__law_number 2) :=
  def_ok hF sc__law_number rfl he fun cdv A outer s H E hr => (fun (c : Cok (JJ G XG) (cxOf (L2.CX P w) P w K mg base n__law_number "_law_number" (defScope s__law_number) fa cdv A outer s H E) (fun cls dd _ H' => E cls dd H') F Fi k) =>
    (ss_cons (ss_set c.nd (sx_call c (f := i__law_draw) rfl (sa_cons (sx_var (pv 0)) (sa_cons sx_int sa_nil)))) (ss_cons (ss_if (st_cmp (o_lt (I := II G XG K)) (sx_var (pv 2)) sx_int) (ss_one (ss_ret (sx_tup (sa_cons sx_int (sa_cons sx_int sa_nil))))) ss_nil) (ss_cons (ss_if (st_cmp (o_lt (I := II G XG K)) (sx_var (pv 2)) sx_int) (ss_one (ss_ret (sx_tup (sa_cons (sx_op (o_own c (f := i_Ratio___sub__) (c := 0) rfl rfl (o_sub (I := II G XG K))) (sx_call c (f := i__law_draw) rfl (sa_cons (sx_var (pv 0)) (sa_cons sx_int sa_nil))) sx_int) (sa_cons sx_int sa_nil))))) ss_nil) (ss_cons (ss_if (st_and (st_cmp (o_ownEq c (f := i_Ratio___eq__) (c := 0) rfl (o_eqG (I := II G XG K) (units64 c.room))) (sx_var (pv 2)) sx_int) (st_and1 (st_cmp (o_gt (I := II G XG K)) (sx_var (pv 1)) sx_int))).pt (ss_cons (ss_set c.nd (sx_op (o_own c (f := i_Ratio___mul__) (c := 0) rfl rfl (o_mul (I := II G XG K))) (sx_call c (f := i__law_great) rfl (sa_cons (sx_var (pv 0)) (sa_cons (sx_var (pv 1)) sa_nil))) (sx_op (o_own c (f := i_Ratio___sub__) (c := 0) rfl rfl (o_sub (I := II G XG K))) sx_int (sx_op (o_own c (f := i_Ratio___mul__) (c := 0) rfl rfl (o_mul (I := II G XG K))) sx_int (sx_call c (f := i__law_draw) rfl (sa_cons (sx_var (pv 0)) (sa_cons sx_int sa_nil))))))) (ss_one (ss_ret (sx_call c (f := i__law_pair) rfl (sa_cons (sx_var (pv 3)) (sa_cons (sx_fn (c_max2 (I := II G XG K) c.calm) c rfl bt_max (sa_cons sx_int (sa_cons (sx_call c (f := i__law_great) rfl (sa_cons (sx_var (pv 0)) (sa_cons (sx_var (pv 1)) sa_nil))) sa_nil))) sa_nil)))))) ss_nil) (ss_one (ss_ret (sx_call c (f := i__law_pair) rfl (sa_cons (sx_op (o_own c (f := i_Ratio___sub__) (c := 0) rfl rfl (o_sub (I := II G XG K))) (sx_call c (f := i__law_draw) rfl (sa_cons (sx_var (pv 0)) (sa_cons sx_int sa_nil))) sx_int) (sa_cons (sx_op (o_own c (f := i_Ratio___add__) (c := 0) rfl rfl (o_add (I := II G XG K))) sx_int (sx_call c (f := i__law_draw) rfl (sa_cons (sx_var (pv 0)) (sa_cons sx_int sa_nil)))) sa_nil)))))))))) (cok_of T sc__law_number hr)
theorem ok__law_product (hF : Fun K "_law_product" "_law_product" s__law_product fa fd) (T : Tb (JJ G XG) P w K mg base F Fi k) (he : ∀ ws S, F1 i__law_product ws S = runDef 9 3 (c__law_product F Fi) ws S) : FnOk P w K mg base (L2.CX P w) (k + 2) fa fd [("one" : Str), ("two" : Str), ("width" : Str)] (spOf (II G XG K) F1 i__law_product 3) :=
  def_ok hF sc__law_product rfl he fun cdv A outer s H E hr => (fun (c : Cok (JJ G XG) (cxOf (L2.CX P w) P w K mg base n__law_product "_law_product" (defScope s__law_product) fa cdv A outer s H E) (fun cls dd _ H' => E cls dd H') F Fi k) =>
    (ss_cons (ss_set c.nd (sx_lstC sa_nil)) (ss_cons (ss_for c (si_any (I := II G XG K) (sx_var (pv 0))) (sg_nm c.nd) (ss_cons (ss_set c.nd (sx_lstC sa_nil)) (ss_cons (ss_for c (si_range1 c rfl (sx_var (pv 2))) (sg_nm c.nd) (ss_cons (ss_set c.nd (sx_tup (sa_cons sx_int (sa_cons sx_int sa_nil)))) (ss_cons (ss_for c (si_range1 c rfl (sx_fn (c_len (I := II G XG K)) c rfl bt_len (sa_cons (sx_var (pv 4)) sa_nil))) (sg_nm c.nd) (ss_one (ss_if (st_and (st_cmp (o_neG (I := II G XG K) (units64 c.room)) (sx_ix (I := II G XG K) (sx_ix (I := II G XG K) (sx_var (pv 4)) (sx_var (pv 8))) sx_int) sx_int) (st_and1 (st_cmp (o_neG (I := II G XG K) (units64 c.room)) (sx_ix (I := II G XG K) (sx_ix (I := II G XG K) (sx_ix (I := II G XG K) (sx_var (pv 1)) (sx_var (pv 8))) (sx_var (pv 6))) sx_int) sx_int))).pt (ss_one (ss_set c.nd (sx_call c (f := i__law_sum) rfl (sa_cons (sx_var (pv 7)) (sa_cons (sx_call c (f := i__law_by) rfl (sa_cons (sx_ix (I := II G XG K) (sx_var (pv 4)) (sx_var (pv 8))) (sa_cons (sx_ix (I := II G XG K) (sx_ix (I := II G XG K) (sx_var (pv 1)) (sx_var (pv 8))) (sx_var (pv 6))) sa_nil))) sa_nil))))) ss_nil))) (ss_one (ss_expr (sx_app (I := II G XG K) (sx_var (pv 5)) (sx_var (pv 7)))))))) (ss_one (ss_frz (ss_expr (sx_app (I := II G XG K) (sx_var (pv 3)) (sx_var (pv 5))))))))) (ss_one (ss_frz (ss_ret (sx_var (pv 3)))))))) (cok_of T sc__law_product hr)
theorem ok__law_other (hF : Fun K "_law_other" "_law_other" s__law_other fa fd) (T : Tb (JJ G XG) P w K mg base F Fi k) (he : ∀ ws S, F1 i__law_other ws S = runDef 3 2 (c__law_other F Fi) ws S) : FnOk P w K mg base (L2.CX P w) (k + 2) fa fd [("feed" : Str), ("wide" : Str)] (spOf (II G XG K) F1 i__law_other 2) :=
  def_ok hF sc__law_other rfl he fun cdv A outer s H E hr => (fun (c : Cok (JJ G XG) (cxOf (L2.CX P w) P w K mg base n__law_other "_law_other" (defScope s__law_other) fa cdv A outer s H E) (fun cls dd _ H' => E cls dd H') F Fi k) =>
    (ss_cons (ss_set c.nd (sx_call c (f := i__law_number) rfl (sa_cons (sx_var (pv 0)) (sa_cons (sx_var (pv 1)) sa_nil)))) (ss_cons (ss_if (st_cmp (o_ownEq c (f := i_Ratio___eq__) (c := 0) rfl (o_eqG (I := II G XG K) (units64 c.room))) (sx_ix (I := II G XG K) (sx_var (pv 2)) sx_int) sx_int) (ss_one (ss_ret (sx_tup (sa_cons sx_int (sa_cons (sx_op (o_own c (f := i_Ratio___add__) (c := 0) rfl rfl (o_add (I := II G XG K))) sx_int (sx_call c (f := i__law_draw) rfl (sa_cons (sx_var (pv 0)) (sa_cons sx_int sa_nil)))) sa_nil))))) ss_nil) (ss_one (ss_ret (sx_var (pv 2))))))) (cok_of T sc__law_other hr)
theorem ok__law_added (hF : Fun K "_law_added" "_law_added" s__law_added fa fd) (T : Tb (JJ G XG) P w K mg base F Fi k) (he : ∀ ws S, F1 i__law_added ws S = runDef 4 3 (c__law_added F Fi) ws S) : FnOk P w K mg base (L2.CX P w) (k + 2) fa fd [("line" : Str), ("number" : Str), ("other" : Str)] (spOf (II G XG K) F1 i__law_added 3) :=
  def_ok hF sc__law_added rfl he fun cdv A outer s H E hr => (fun (c : Cok (JJ G XG) (cxOf (L2.CX P w) P w K mg base n__law_added "_law_added" (defScope s__law_added) fa cdv A outer s H E) (fun cls dd _ H' => E cls dd H') F Fi k) =>
    (ss_one (ss_ret (sx_comp c (own := [("k", 3)]) (si_range1 c rfl (sx_fn (c_len (I := II G XG K)) c rfl bt_len (sa_cons (sx_var (pv 0)) sa_nil))) (by decide) (blkOk_by (N := n__law_added) (sc := defScope s__law_added) (by decide +kernel)) (fun _ _ _ _ _ => (sg_nm (c.blk _ _ _ _ _).nd)) (fun _ _ _ _ _ => sts_nil) (fun _ _ _ _ _ => (sx_call (c.blk _ _ _ _ _) (f := i__law_sum) rfl (sa_cons (sx_ix (I := II G XG K) (sx_var (pv 0)) (sx_var (pv 3))) (sa_cons (sx_call (c.blk _ _ _ _ _) (f := i__law_by) rfl (sa_cons (sx_var (pv 1)) (sa_cons (sx_ix (I := II G XG K) (sx_var (pv 2)) (sx_var (pv 3))) sa_nil))) sa_nil)))))))) (cok_of T sc__law_added hr)
theorem ok__law_square (hF : Fun K "_law_square" "_law_square" s__law_square fa fd) (T : Tb (JJ G XG) P w K mg base F Fi k) (he : ∀ ws S, F1 i__law_square ws S = runDef 9 3 (c__law_square F Fi) ws S) : FnOk P w K mg base (L2.CX P w) (k + 2) fa fd [("feed" : Str), ("size" : Str), ("wide" : Str)] (spOf (II G XG K) F1 i__law_square 3) :=
  def_ok hF sc__law_square rfl he fun cdv A outer s H E hr => (fun (c : Cok (JJ G XG) (cxOf (L2.CX P w) P w K mg base n__law_square "_law_square" (defScope s__law_square) fa cdv A outer s H E) (fun cls dd _ H' => E cls dd H') F Fi k) =>
    (ss_cons (ss_comp .cell c (own := [("k", 4)]) (si_range1 c rfl (sx_var (pv 1))) (by decide) (blkOk_by (N := n__law_square) (sc := defScope s__law_square) (by decide +kernel)) (fun _ _ _ _ _ => (sg_nm (c.blk _ _ _ _ _).nd)) (fun _ _ _ _ _ => sts_nil) (fun _ _ _ _ _ => (sx_compC (c.blk _ _ _ _ _) (own := [("place", 8)]) (si_range1 (c.blk _ _ _ _ _) rfl (sx_var (pv 1))) (by decide) (blkOk_in (blkOk_by (N := n__law_square) (by decide +kernel))) (fun _ _ _ _ _ => (sg_nm ((c.blk _ _ _ _ _).blk _ _ _ _ _).nd)) (fun _ _ _ _ _ => sts_nil) (fun _ _ _ _ _ => (sx_tup (sa_cons sx_int (sa_cons sx_int sa_nil))))))) (ss_cons (ss_for c (si_range1 c rfl (sx_var (pv 1))) (sg_nm c.nd) (ss_one (ss_sub (sx_call c (f := i__law_other) rfl (sa_cons (sx_var (pv 0)) (sa_cons (sx_var (pv 2)) sa_nil))) (sx_ix (I := II G XG K) (sx_var (pv 3)) (sx_var (pv 4))) (sx_var (pv 4))))) (ss_cons (ss_if (st_cmp (o_lt (I := II G XG K)) (sx_var (pv 1)) sx_int) (ss_one (ss_frz2 (ss_ret (sx_var (pv 3))))) ss_nil) (ss_cons (ss_for c (si_range1 c rfl (sx_call c (f := i__law_draw) rfl (sa_cons (sx_var (pv 0)) (sa_cons sx_int sa_nil)))) (sg_nm c.nd) (ss_cons (ss_set c.nd (sx_call c (f := i__law_draw) rfl (sa_cons (sx_var (pv 0)) (sa_cons (sx_var (pv 1)) sa_nil)))) (ss_cons (ss_set c.nd (sx_op (o_mod (I := II G XG K)) (sx_op (o_own c (f := i_Ratio___add__) (c := 0) rfl rfl (o_add (I := II G XG K))) (sx_op (o_own c (f := i_Ratio___add__) (c := 0) rfl rfl (o_add (I := II G XG K))) (sx_var (pv 6)) sx_int) (sx_call c (f := i__law_draw) rfl (sa_cons (sx_var (pv 0)) (sa_cons (sx_op (o_own c (f := i_Ratio___sub__) (c := 0) rfl rfl (o_sub (I := II G XG K))) (sx_var (pv 1)) sx_int) sa_nil)))) (sx_var (pv 1)))) (ss_one (ss_if (st_cmp (o_ownEq c (f := i_Ratio___eq__) (c := 0) rfl (o_eqG (I := II G XG K) (units64 c.room))) (sx_call c (f := i__law_draw) rfl (sa_cons (sx_var (pv 0)) (sa_cons sx_int sa_nil))) sx_int) (ss_one (ss_swp c.calm (sx_ix (I := II G XG K) (sx_var (pv 3)) (sx_var (pv 7))) (sx_ix (I := II G XG K) (sx_var (pv 3)) (sx_var (pv 6))) (sx_var (pv 3)) (sx_var (pv 6)) (sx_var (pv 3)) (sx_var (pv 7)))) (ss_one (ss_sub (sx_call c (f := i__law_added) rfl (sa_cons (sx_ix (I := II G XG K) (sx_var (pv 3)) (sx_var (pv 6))) (sa_cons (sx_call c (f := i__law_number) rfl (sa_cons (sx_var (pv 0)) (sa_cons sx_int sa_nil))) (sa_cons (sx_ix (I := II G XG K) (sx_var (pv 3)) (sx_var (pv 7))) sa_nil)))) (sx_var (pv 3)) (sx_var (pv 6))))))))) (ss_one (ss_frz2 (ss_ret (sx_var (pv 3)))))))))) (cok_of T sc__law_square hr)
theorem ok__law_dependent (hF : Fun K "_law_dependent" "_law_dependent" s__law_dependent fa fd) (T : Tb (JJ G XG) P w K mg base F Fi k) (he : ∀ ws S, F1 i__law_dependent ws S = runDef 6 2 (c__law_dependent F Fi) ws S) : FnOk P w K mg base (L2.CX P w) (k + 2) fa fd [("feed" : Str), ("lines" : Str)] (spOf (II G XG K) F1 i__law_dependent 2) :=
  def_ok hF sc__law_dependent rfl he fun cdv A outer s H E hr => (fun (c : Cok (JJ G XG) (cxOf (L2.CX P w) P w K mg base n__law_dependent "_law_dependent" (defScope s__law_dependent) fa cdv A outer s H E) (fun cls dd _ H' => E cls dd H') F Fi k) =>
    (ss_cons (ss_set c.nd (sx_fn (c_len (I := II G XG K)) c rfl bt_len (sa_cons (sx_var (pv 1)) sa_nil))) (ss_cons (ss_set c.nd (sx_call c (f := i__law_draw) rfl (sa_cons (sx_var (pv 0)) (sa_cons (sx_var (pv 2)) sa_nil)))) (ss_cons (ss_comp .plain c (own := [("k", 5)]) (si_range1 c rfl (sx_var (pv 2))) (by decide) (blkOk_by (N := n__law_dependent) (sc := defScope s__law_dependent) (by decide +kernel)) (fun _ _ _ _ _ => (sg_nm (c.blk _ _ _ _ _).nd)) (fun _ _ _ _ _ => sts_nil) (fun _ _ _ _ _ => (sx_tup (sa_cons sx_int (sa_cons sx_int sa_nil))))) (ss_cons (ss_for c (si_range1 c rfl (sx_var (pv 2))) (sg_nm c.nd) (ss_one (ss_if (st_cmp (o_neG (I := II G XG K) (units64 c.room)) (sx_var (pv 5)) (sx_var (pv 3))) (ss_one (ss_set c.nd (sx_call c (f := i__law_added) rfl (sa_cons (sx_var (pv 4)) (sa_cons (sx_call c (f := i__law_number) rfl (sa_cons (sx_var (pv 0)) (sa_cons sx_int sa_nil))) (sa_cons (sx_ix (I := II G XG K) (sx_var (pv 1)) (sx_var (pv 5))) sa_nil)))))) ss_nil))) (ss_one (ss_ret (sx_op (o_own c (f := i_Ratio___add__) (c := 0) rfl rfl (o_add (I := II G XG K))) (sx_op (o_own c (f := i_Ratio___add__) (c := 0) rfl rfl (o_add (I := II G XG K))) (sx_sl (I := II G XG K) (sx_var (pv 1)) so_none (so_some (sx_var (pv 3)))) (sx_lst (sa_cons (sx_var (pv 4)) sa_nil))) (sx_sl (I := II G XG K) (sx_var (pv 1)) (so_some (sx_op (o_own c (f := i_Ratio___add__) (c := 0) rfl rfl (o_add (I := II G XG K))) (sx_var (pv 3)) sx_int)) so_none))))))))) (cok_of T sc__law_dependent hr)
theorem ok__law_pairs (hF : Fun K "_law_pairs" "_law_pairs" s__law_pairs fa fd) (T : Tb (JJ G XG) P w K mg base F Fi k) (he : ∀ ws S, F1 i__law_pairs ws S = runDef 6 2 (c__law_pairs F Fi) ws S) : FnOk P w K mg base (L2.CX P w) (k + 2) fa fd [("actual" : Str), ("size" : Str)] (spOf (II G XG K) F1 i__law_pairs 2) :=
  def_ok hF sc__law_pairs rfl he fun cdv A outer s H E hr => (fun (c : Cok (JJ G XG) (cxOf (L2.CX P w) P w K mg base n__law_pairs "_law_pairs" (defScope s__law_pairs) fa cdv A outer s H E) (fun cls dd _ H' => E cls dd H') F Fi k) =>
    (ss_cons (ss_if (st_or (st_not (st_tr (truO_ne _ _ _) (tr_own c (f := i_Ratio___bool__) (c := 0) rfl) (sx_isT (T' := Ty.tup) c rfl (by decide) rfl rfl bt_tuple (sx_var (pv 0))))) (st_or1 (st_cmp (o_neG (I := II G XG K) (units64 c.room)) (sx_fn (c_len (I := II G XG K)) c rfl bt_len (sa_cons (sx_var (pv 0)) sa_nil)) (sx_var (pv 1))))).pt (ss_one (ss_ret sx_non)) ss_nil) (ss_cons (ss_set c.nd (sx_lstC sa_nil)) (ss_cons (ss_for c (si_any (I := II G XG K) (sx_var (pv 0))) (sg_nm c.nd) (ss_cons (ss_if (st_or (st_not (st_tr (truO_ne _ _ _) (tr_own c (f := i_Ratio___bool__) (c := 0) rfl) (sx_isT (T' := Ty.tup) c rfl (by decide) rfl rfl bt_tuple (sx_var (pv 3))))) (st_or1 (st_cmp (o_neG (I := II G XG K) (units64 c.room)) (sx_fn (c_len (I := II G XG K)) c rfl bt_len (sa_cons (sx_var (pv 3)) sa_nil)) (sx_var (pv 1))))).pt (ss_one (ss_ret sx_non)) ss_nil) (ss_cons (ss_set c.nd (sx_lstC sa_nil)) (ss_cons (ss_for c (si_any (I := II G XG K) (sx_var (pv 3))) (sg_nm c.nd) (ss_cons (ss_if (st_or (st_not (st_tr (truO_ne _ _ _) (tr_own c (f := i_Ratio___bool__) (c := 0) rfl) (sx_isC c rfl rfl (sx_var (pv 5))))) (st_or (st_not (st_tr (truO_ne _ _ _) (tr_own c (f := i_Ratio___bool__) (c := 0) rfl) (sx_call c (f := i__law_is_integer) rfl (sa_cons (sx_attr c (c := 0) (i := 0) rfl nd_0 (sx_var (pv 5))) sa_nil)))) (st_or1 (st_not (st_tr (truO_ne _ _ _) (tr_own c (f := i_Ratio___bool__) (c := 0) rfl) (sx_call c (f := i__law_is_integer) rfl (sa_cons (sx_attr c (c := 0) (i := 1) rfl nd_0 (sx_var (pv 5))) sa_nil))))))).pt (ss_one (ss_ret sx_non)) ss_nil) (ss_cons (ss_if (st_or (st_cmp (o_lt (I := II G XG K)) (sx_attr c (c := 0) (i := 1) rfl nd_0 (sx_var (pv 5))) sx_int) (st_or1 (st_cmp (o_neG (I := II G XG K) (units64 c.room)) (sx_call c (f := i__law_pair) rfl (sa_cons (sx_attr c (c := 0) (i := 0) rfl nd_0 (sx_var (pv 5))) (sa_cons (sx_attr c (c := 0) (i := 1) rfl nd_0 (sx_var (pv 5))) sa_nil))) (sx_tup (sa_cons (sx_attr c (c := 0) (i := 0) rfl nd_0 (sx_var (pv 5))) (sa_cons (sx_attr c (c := 0) (i := 1) rfl nd_0 (sx_var (pv 5))) sa_nil)))))).pt (ss_one (ss_ret sx_non)) ss_nil) (ss_one (ss_expr (sx_app (I := II G XG K) (sx_var (pv 4)) (sx_tup (sa_cons (sx_attr c (c := 0) (i := 0) rfl nd_0 (sx_var (pv 5))) (sa_cons (sx_attr c (c := 0) (i := 1) rfl nd_0 (sx_var (pv 5))) sa_nil))))))))) (ss_one (ss_frz (ss_expr (sx_app (I := II G XG K) (sx_var (pv 2)) (sx_var (pv 4)))))))))) (ss_one (ss_frz (ss_ret (sx_var (pv 2))))))))) (cok_of T sc__law_pairs hr)
theorem ok_law (hF : Fun K "law" "law" s_law fa fd) (T : Tb (JJ G XG) P w K mg base F Fi k) (he : ∀ ws S, F1 i_law ws S = runDef 11 1 (c_law F Fi) ws S) : FnOk P w K mg base (L2.CX P w) (k + 2) fa fd [("script" : Str)] (spOf (II G XG K) F1 i_law 1) :=
  def_ok hF sc_law rfl he fun cdv A outer s H E hr => (fun (c : Cok (JJ G XG) (cxOf (L2.CX P w) P w K mg base n_law "law" (defScope s_law) fa cdv A outer s H E) (fun cls dd _ H' => E cls dd H') F Fi k) =>
    (ss_cons (ss_set c.nd (sx_call c (f := i__law_feed) rfl (sa_cons (sx_var (pv 0)) sa_nil))) (ss_cons (ss_set c.nd (sx_op (o_own c (f := i_Ratio___mul__) (c := 0) rfl rfl (o_mul (I := II G XG K))) sx_int (sx_ty (c_int (I := II G XG K)) c rfl bt_int (sa_cons (sx_cmp (o_ownEq c (f := i_Ratio___eq__) (c := 0) rfl (o_eqG (I := II G XG K) (units64 c.room))) (sx_call c (f := i__law_draw) rfl (sa_cons (sx_var (pv 1)) (sa_cons sx_int sa_nil))) sx_int) sa_nil)))) (ss_cons (ss_set c.nd (sx_call c (f := i__law_draw) rfl (sa_cons (sx_var (pv 1)) (sa_cons sx_int sa_nil)))) (ss_cons (ss_if (st_cmp (o_ownEq c (f := i_Ratio___eq__) (c := 0) rfl (o_eqG (I := II G XG K) (units64 c.room))) (sx_call c (f := i__law_draw) rfl (sa_cons (sx_var (pv 1)) (sa_cons sx_int sa_nil))) sx_int) (ss_one (ss_set c.nd sx_int)) ss_nil) (ss_cons (ss_set c.nd (sx_call c (f := i__law_square) rfl (sa_cons (sx_var (pv 1)) (sa_cons (sx_var (pv 3)) (sa_cons (sx_var (pv 2)) sa_nil))))) (ss_cons (ss_set c.nd (sx_call c (f := i__law_ratio_table) rfl (sa_cons (sx_var (pv 4)) sa_nil))) (ss_cons (ss_comp .plain c (own := [("k", 9)]) (si_range1 c rfl (sx_var (pv 3))) (by decide) (blkOk_by (N := n_law) (sc := defScope s_law) (by decide +kernel)) (fun _ _ _ _ _ => (sg_nm (c.blk _ _ _ _ _).nd)) (fun _ _ _ _ _ => sts_nil) (fun _ _ _ _ _ => (sx_comp (c.blk _ _ _ _ _) (own := [("place", 10)]) (si_range1 (c.blk _ _ _ _ _) rfl (sx_var (pv 3))) (by decide) (blkOk_in (blkOk_by (N := n_law) (by decide +kernel))) (fun _ _ _ _ _ => (sg_nm ((c.blk _ _ _ _ _).blk _ _ _ _ _).nd)) (fun _ _ _ _ _ => sts_nil) (fun _ _ _ _ _ => (sx_tup (sa_cons (sx_ty (c_int (I := II G XG K)) ((c.blk _ _ _ _ _).blk _ _ _ _ _) rfl bt_int (sa_cons (sx_cmp (o_ownEq ((c.blk _ _ _ _ _).blk _ _ _ _ _) (f := i_Ratio___eq__) (c := 0) rfl (o_eqG (I := II G XG K) (units64 ((c.blk _ _ _ _ _).blk _ _ _ _ _).room))) (sx_var (pv 9)) (sx_var (pv 10))) sa_nil)) (sa_cons sx_int sa_nil))))))) (ss_cons (ss_for c (si_range1 c rfl sx_int) (sg_nm c.nd) (ss_cons (ss_set c.nd (sx_call c (f := i__law_pairs) rfl (sa_cons (sx_call c (f := i_inverse) rfl (sa_cons (sx_var (pv 5)) sa_nil)) (sa_cons (sx_var (pv 3)) sa_nil)))) (ss_cons (ss_if (st_or (st_cmp (o_is (I := II G XG K)) (sx_var (pv 8)) sx_non) (st_or (st_cmp (o_neG (I := II G XG K) (units64 c.room)) (sx_call c (f := i__law_product) rfl (sa_cons (sx_var (pv 8)) (sa_cons (sx_var (pv 4)) (sa_cons (sx_var (pv 3)) sa_nil)))) (sx_var (pv 6))) (st_or1 (st_cmp (o_neG (I := II G XG K) (units64 c.room)) (sx_call c (f := i__law_product) rfl (sa_cons (sx_var (pv 4)) (sa_cons (sx_var (pv 8)) (sa_cons (sx_var (pv 3)) sa_nil)))) (sx_var (pv 6)))))).pt (ss_one (ss_ret sx_bl)) ss_nil) (ss_one (ss_if (st_and (st_cmp (o_gt (I := II G XG K)) (sx_var (pv 3)) sx_int) (st_and1 (st_cmp (o_isnot (I := II G XG K)) (sx_call c (f := i_inverse) rfl (sa_cons (sx_call c (f := i__law_ratio_table) rfl (sa_cons (sx_call c (f := i__law_dependent) rfl (sa_cons (sx_var (pv 1)) (sa_cons (sx_var (pv 4)) sa_nil))) sa_nil)) sa_nil)) sx_non))).pt (ss_one (ss_ret sx_bl)) ss_nil))))) (ss_one (ss_ret (sx_call c (f := i__law_same_table) rfl (sa_cons (sx_var (pv 5)) (sa_cons (sx_var (pv 4)) sa_nil)))))))))))))) (cok_of T sc_law hr)
end
end Lw
namespace Lw
open PySem PySem.Spec PyProof.Rows L2 Py
theorem all_mk {l : PySem.W.OpenLaw} {w : World} {K : PySem.W.Frag} {h : Heap} {mg : Str → Option Value} {fa : Addr} (X : K.In h) (GG : h.Ns mainGlobals mg) (hfa : mg "law" = some (.ref fa))
    {C0 : Addr}
    {C1 : Addr}
    {f0 : Addr}
    {od0 an0 : Option Addr}
    {sl0 : Array (Option Value)}
    {oc0 kV0 dc0 pm0 cd0 ct0 : Value}
    {f1 : Addr}
    {od1 an1 : Option Addr}
    {sl1 : Array (Option Value)}
    {oc1 kV1 dc1 pm1 cd1 ct1 : Value}
    {dT1 : Addr}
    {dto1 : Option Addr}
    {dtc1 : Value}
    {dts1 : Array (Option Value)}
    {dtn1 : Nat}
    {dk1_0 : Tok}
    {f2 : Addr}
    {od2 an2 : Option Addr}
    {sl2 : Array (Option Value)}
    {oc2 kV2 dc2 pm2 cd2 ct2 : Value}
    {f3 : Addr}
    {od3 an3 : Option Addr}
    {sl3 : Array (Option Value)}
    {oc3 kV3 dc3 pm3 cd3 ct3 : Value}
    {f4 : Addr}
    {od4 an4 : Option Addr}
    {sl4 : Array (Option Value)}
    {oc4 kV4 dc4 pm4 cd4 ct4 : Value}
    {f5 : Addr}
    {od5 an5 : Option Addr}
    {sl5 : Array (Option Value)}
    {oc5 kV5 dc5 pm5 cd5 ct5 : Value}
    {f6 : Addr}
    {od6 an6 : Option Addr}
    {sl6 : Array (Option Value)}
    {oc6 kV6 dc6 pm6 cd6 ct6 : Value}
    {f7 : Addr}
    {od7 an7 : Option Addr}
    {sl7 : Array (Option Value)}
    {oc7 kV7 dc7 pm7 cd7 ct7 : Value}
    {f8 : Addr}
    {od8 an8 : Option Addr}
    {sl8 : Array (Option Value)}
    {oc8 kV8 dc8 pm8 cd8 ct8 : Value}
    {f9 : Addr}
    {od9 an9 : Option Addr}
    {sl9 : Array (Option Value)}
    {oc9 kV9 dc9 pm9 cd9 ct9 : Value}
    {f10 : Addr}
    {od10 an10 : Option Addr}
    {sl10 : Array (Option Value)}
    {oc10 kV10 dc10 pm10 cd10 ct10 : Value}
    {f11 : Addr}
    {od11 an11 : Option Addr}
    {sl11 : Array (Option Value)}
    {oc11 kV11 dc11 pm11 cd11 ct11 : Value}
    {f12 : Addr}
    {od12 an12 : Option Addr}
    {sl12 : Array (Option Value)}
    {oc12 kV12 dc12 pm12 cd12 ct12 : Value}
    {f13 : Addr}
    {od13 an13 : Option Addr}
    {sl13 : Array (Option Value)}
    {oc13 kV13 dc13 pm13 cd13 ct13 : Value}
    {f14 : Addr}
    {od14 an14 : Option Addr}
    {sl14 : Array (Option Value)}
    {oc14 kV14 dc14 pm14 cd14 ct14 : Value}
    {f15 : Addr}
    {od15 an15 : Option Addr}
    {sl15 : Array (Option Value)}
    {oc15 kV15 dc15 pm15 cd15 ct15 : Value}
    {f16 : Addr}
    {od16 an16 : Option Addr}
    {sl16 : Array (Option Value)}
    {oc16 kV16 dc16 pm16 cd16 ct16 : Value}
    {f17 : Addr}
    {od17 an17 : Option Addr}
    {sl17 : Array (Option Value)}
    {oc17 kV17 dc17 pm17 cd17 ct17 : Value}
    {f18 : Addr}
    {od18 an18 : Option Addr}
    {sl18 : Array (Option Value)}
    {oc18 kV18 dc18 pm18 cd18 ct18 : Value}
    {f19 : Addr}
    {od19 an19 : Option Addr}
    {sl19 : Array (Option Value)}
    {oc19 kV19 dc19 pm19 cd19 ct19 : Value}
    {f20 : Addr}
    {od20 an20 : Option Addr}
    {sl20 : Array (Option Value)}
    {oc20 kV20 dc20 pm20 cd20 ct20 : Value}
    {f21 : Addr}
    {od21 an21 : Option Addr}
    {sl21 : Array (Option Value)}
    {oc21 kV21 dc21 pm21 cd21 ct21 : Value}
    {f22 : Addr}
    {od22 an22 : Option Addr}
    {sl22 : Array (Option Value)}
    {oc22 kV22 dc22 pm22 cd22 ct22 : Value}
    {f23 : Addr}
    {od23 an23 : Option Addr}
    {sl23 : Array (Option Value)}
    {oc23 kV23 dc23 pm23 cd23 ct23 : Value}
    {f24 : Addr}
    {od24 an24 : Option Addr}
    {sl24 : Array (Option Value)}
    {oc24 kV24 dc24 pm24 cd24 ct24 : Value}
    {f25 : Addr}
    {od25 an25 : Option Addr}
    {sl25 : Array (Option Value)}
    {oc25 kV25 dc25 pm25 cd25 ct25 : Value}
    {f26 : Addr}
    {od26 an26 : Option Addr}
    {sl26 : Array (Option Value)}
    {oc26 kV26 dc26 pm26 cd26 ct26 : Value}
    {f27 : Addr}
    {od27 an27 : Option Addr}
    {sl27 : Array (Option Value)}
    {oc27 kV27 dc27 pm27 cd27 ct27 : Value}
    {f28 : Addr}
    {od28 an28 : Option Addr}
    {sl28 : Array (Option Value)}
    {oc28 kV28 dc28 pm28 cd28 ct28 : Value}
    {f29 : Addr}
    {od29 an29 : Option Addr}
    {sl29 : Array (Option Value)}
    {oc29 kV29 dc29 pm29 cd29 ct29 : Value}
    {f30 : Addr}
    {od30 an30 : Option Addr}
    {sl30 : Array (Option Value)}
    {oc30 kV30 dc30 pm30 cd30 ct30 : Value}
    {f31 : Addr}
    {od31 an31 : Option Addr}
    {sl31 : Array (Option Value)}
    {oc31 kV31 dc31 pm31 cd31 ct31 : Value}
    {f32 : Addr}
    {od32 an32 : Option Addr}
    {sl32 : Array (Option Value)}
    {oc32 kV32 dc32 pm32 cd32 ct32 : Value}
    {f33 : Addr}
    {od33 an33 : Option Addr}
    {sl33 : Array (Option Value)}
    {oc33 kV33 dc33 pm33 cd33 ct33 : Value}
    {f34 : Addr}
    {od34 an34 : Option Addr}
    {sl34 : Array (Option Value)}
    {oc34 kV34 dc34 pm34 cd34 ct34 : Value}
    {f35 : Addr}
    {od35 an35 : Option Addr}
    {sl35 : Array (Option Value)}
    {oc35 kV35 dc35 pm35 cd35 ct35 : Value}
    {f36 : Addr}
    {od36 an36 : Option Addr}
    {sl36 : Array (Option Value)}
    {oc36 kV36 dc36 pm36 cd36 ct36 : Value}
    {f37 : Addr}
    {od37 an37 : Option Addr}
    {sl37 : Array (Option Value)}
    {oc37 kV37 dc37 pm37 cd37 ct37 : Value}
    {f38 : Addr}
    {od38 an38 : Option Addr}
    {sl38 : Array (Option Value)}
    {oc38 kV38 dc38 pm38 cd38 ct38 : Value}
    {f39 : Addr}
    {od39 an39 : Option Addr}
    {sl39 : Array (Option Value)}
    {oc39 kV39 dc39 pm39 cd39 ct39 : Value}
    {f40 : Addr}
    {od40 an40 : Option Addr}
    {sl40 : Array (Option Value)}
    {oc40 kV40 dc40 pm40 cd40 ct40 : Value}
    {f41 : Addr}
    {od41 an41 : Option Addr}
    {sl41 : Array (Option Value)}
    {oc41 kV41 dc41 pm41 cd41 ct41 : Value}
    (h_aC0 : PySem.W.nsIn K mainGlobals ("Ratio" : Str) = some (some (.ref C0)))
    (h_aC1 : PySem.W.nsIn K mainGlobals ("Space" : Str) = some (some (.ref C1)))
    (h_a0 : PySem.W.nsIn K mainGlobals ("shared_part" : Str) = some (some (.ref f0)))
    (h_l0 : K.lookup f0 = some ⟨oc0, od0, .func (PySem.W.fnOf "shared_part" "shared_part" (defArgs s_shared_part) (defBody s_shared_part) (defScope s_shared_part) .none kV0 dc0 pm0 an0 cd0 ct0), sl0⟩)
    (h_c0 : PySem.W.codeIn K cd0 "shared_part" = true)
    (h_k0 : PySem.W.keepIn K (.ref f0) = true)
    (h_a1 : PySem.W.findIn K (.ref C0) ("__init__" : Str) = some (some (.ref f1)))
    (h_i1 : PySem.W.isFn K (.ref f1) = true)
    (h_l1 : K.lookup f1 = some ⟨oc1, od1, .func (PySem.W.fnOf "__init__" "Ratio.__init__" (defArgs s_Ratio___init__) (defBody s_Ratio___init__) (defScope s_Ratio___init__) (.ref dT1) kV1 dc1 pm1 an1 cd1 ct1), sl1⟩)
    (h_d1 : K.lookup dT1 = some ⟨dtc1, dto1, .seq ([Value.int 1 dk1_0] : List Value).toArray dtn1, dts1⟩)
    (h_c1 : PySem.W.codeIn K cd1 "Ratio.__init__" = true)
    (h_k1 : PySem.W.keepIn K (.ref f1) = true)
    (h_a2 : PySem.W.findIn K (.ref C0) ("__add__" : Str) = some (some (.ref f2)))
    (h_i2 : PySem.W.isFn K (.ref f2) = true)
    (h_l2 : K.lookup f2 = some ⟨oc2, od2, .func (PySem.W.fnOf "__add__" "Ratio.__add__" (defArgs s_Ratio___add__) (defBody s_Ratio___add__) (defScope s_Ratio___add__) .none kV2 dc2 pm2 an2 cd2 ct2), sl2⟩)
    (h_c2 : PySem.W.codeIn K cd2 "Ratio.__add__" = true)
    (h_k2 : PySem.W.keepIn K (.ref f2) = true)
    (h_a3 : PySem.W.findIn K (.ref C0) ("__sub__" : Str) = some (some (.ref f3)))
    (h_i3 : PySem.W.isFn K (.ref f3) = true)
    (h_l3 : K.lookup f3 = some ⟨oc3, od3, .func (PySem.W.fnOf "__sub__" "Ratio.__sub__" (defArgs s_Ratio___sub__) (defBody s_Ratio___sub__) (defScope s_Ratio___sub__) .none kV3 dc3 pm3 an3 cd3 ct3), sl3⟩)
    (h_c3 : PySem.W.codeIn K cd3 "Ratio.__sub__" = true)
    (h_k3 : PySem.W.keepIn K (.ref f3) = true)
    (h_a4 : PySem.W.findIn K (.ref C0) ("__mul__" : Str) = some (some (.ref f4)))
    (h_i4 : PySem.W.isFn K (.ref f4) = true)
    (h_l4 : K.lookup f4 = some ⟨oc4, od4, .func (PySem.W.fnOf "__mul__" "Ratio.__mul__" (defArgs s_Ratio___mul__) (defBody s_Ratio___mul__) (defScope s_Ratio___mul__) .none kV4 dc4 pm4 an4 cd4 ct4), sl4⟩)
    (h_c4 : PySem.W.codeIn K cd4 "Ratio.__mul__" = true)
    (h_k4 : PySem.W.keepIn K (.ref f4) = true)
    (h_a5 : PySem.W.findIn K (.ref C0) ("__neg__" : Str) = some (some (.ref f5)))
    (h_i5 : PySem.W.isFn K (.ref f5) = true)
    (h_l5 : K.lookup f5 = some ⟨oc5, od5, .func (PySem.W.fnOf "__neg__" "Ratio.__neg__" (defArgs s_Ratio___neg__) (defBody s_Ratio___neg__) (defScope s_Ratio___neg__) .none kV5 dc5 pm5 an5 cd5 ct5), sl5⟩)
    (h_c5 : PySem.W.codeIn K cd5 "Ratio.__neg__" = true)
    (h_k5 : PySem.W.keepIn K (.ref f5) = true)
    (h_a6 : PySem.W.findIn K (.ref C0) ("__eq__" : Str) = some (some (.ref f6)))
    (h_i6 : PySem.W.isFn K (.ref f6) = true)
    (h_l6 : K.lookup f6 = some ⟨oc6, od6, .func (PySem.W.fnOf "__eq__" "Ratio.__eq__" (defArgs s_Ratio___eq__) (defBody s_Ratio___eq__) (defScope s_Ratio___eq__) .none kV6 dc6 pm6 an6 cd6 ct6), sl6⟩)
    (h_c6 : PySem.W.codeIn K cd6 "Ratio.__eq__" = true)
    (h_k6 : PySem.W.keepIn K (.ref f6) = true)
    (h_a7 : PySem.W.findIn K (.ref C0) ("__bool__" : Str) = some (some (.ref f7)))
    (h_i7 : PySem.W.isFn K (.ref f7) = true)
    (h_l7 : K.lookup f7 = some ⟨oc7, od7, .func (PySem.W.fnOf "__bool__" "Ratio.__bool__" (defArgs s_Ratio___bool__) (defBody s_Ratio___bool__) (defScope s_Ratio___bool__) .none kV7 dc7 pm7 an7 cd7 ct7), sl7⟩)
    (h_c7 : PySem.W.codeIn K cd7 "Ratio.__bool__" = true)
    (h_k7 : PySem.W.keepIn K (.ref f7) = true)
    (h_a8 : PySem.W.findIn K (.ref C0) ("over" : Str) = some (some (.ref f8)))
    (h_i8 : PySem.W.isFn K (.ref f8) = true)
    (h_l8 : K.lookup f8 = some ⟨oc8, od8, .func (PySem.W.fnOf "over" "Ratio.over" (defArgs s_Ratio_over) (defBody s_Ratio_over) (defScope s_Ratio_over) .none kV8 dc8 pm8 an8 cd8 ct8), sl8⟩)
    (h_c8 : PySem.W.codeIn K cd8 "Ratio.over" = true)
    (h_k8 : PySem.W.keepIn K (.ref f8) = true)
    (h_a9 : PySem.W.nsIn K mainGlobals ("unit" : Str) = some (some (.ref f9)))
    (h_l9 : K.lookup f9 = some ⟨oc9, od9, .func (PySem.W.fnOf "unit" "unit" (defArgs s_unit) (defBody s_unit) (defScope s_unit) .none kV9 dc9 pm9 an9 cd9 ct9), sl9⟩)
    (h_c9 : PySem.W.codeIn K cd9 "unit" = true)
    (h_k9 : PySem.W.keepIn K (.ref f9) = true)
    (h_a10 : PySem.W.nsIn K mainGlobals ("leading" : Str) = some (some (.ref f10)))
    (h_l10 : K.lookup f10 = some ⟨oc10, od10, .func (PySem.W.fnOf "leading" "leading" (defArgs s_leading) (defBody s_leading) (defScope s_leading) .none kV10 dc10 pm10 an10 cd10 ct10), sl10⟩)
    (h_c10 : PySem.W.codeIn K cd10 "leading" = true)
    (h_k10 : PySem.W.keepIn K (.ref f10) = true)
    (h_a11 : PySem.W.nsIn K mainGlobals ("scaled_row" : Str) = some (some (.ref f11)))
    (h_l11 : K.lookup f11 = some ⟨oc11, od11, .func (PySem.W.fnOf "scaled_row" "scaled_row" (defArgs s_scaled_row) (defBody s_scaled_row) (defScope s_scaled_row) .none kV11 dc11 pm11 an11 cd11 ct11), sl11⟩)
    (h_c11 : PySem.W.codeIn K cd11 "scaled_row" = true)
    (h_k11 : PySem.W.keepIn K (.ref f11) = true)
    (h_a12 : PySem.W.nsIn K mainGlobals ("less" : Str) = some (some (.ref f12)))
    (h_l12 : K.lookup f12 = some ⟨oc12, od12, .func (PySem.W.fnOf "less" "less" (defArgs s_less) (defBody s_less) (defScope s_less) .none kV12 dc12 pm12 an12 cd12 ct12), sl12⟩)
    (h_c12 : PySem.W.codeIn K cd12 "less" = true)
    (h_k12 : PySem.W.keepIn K (.ref f12) = true)
    (h_a13 : PySem.W.findIn K (.ref C1) ("__init__" : Str) = some (some (.ref f13)))
    (h_i13 : PySem.W.isFn K (.ref f13) = true)
    (h_l13 : K.lookup f13 = some ⟨oc13, od13, .func (PySem.W.fnOf "__init__" "Space.__init__" (defArgs s_Space___init__) (defBody s_Space___init__) (defScope s_Space___init__) .none kV13 dc13 pm13 an13 cd13 ct13), sl13⟩)
    (h_c13 : PySem.W.codeIn K cd13 "Space.__init__" = true)
    (h_k13 : PySem.W.keepIn K (.ref f13) = true)
    (h_a14 : PySem.W.findIn K (.ref C1) ("rest" : Str) = some (some (.ref f14)))
    (h_i14 : PySem.W.isFn K (.ref f14) = true)
    (h_l14 : K.lookup f14 = some ⟨oc14, od14, .func (PySem.W.fnOf "rest" "Space.rest" (defArgs s_Space_rest) (defBody s_Space_rest) (defScope s_Space_rest) .none kV14 dc14 pm14 an14 cd14 ct14), sl14⟩)
    (h_c14 : PySem.W.codeIn K cd14 "Space.rest" = true)
    (h_k14 : PySem.W.keepIn K (.ref f14) = true)
    (h_a15 : PySem.W.findIn K (.ref C1) ("has" : Str) = some (some (.ref f15)))
    (h_i15 : PySem.W.isFn K (.ref f15) = true)
    (h_l15 : K.lookup f15 = some ⟨oc15, od15, .func (PySem.W.fnOf "has" "Space.has" (defArgs s_Space_has) (defBody s_Space_has) (defScope s_Space_has) .none kV15 dc15 pm15 an15 cd15 ct15), sl15⟩)
    (h_c15 : PySem.W.codeIn K cd15 "Space.has" = true)
    (h_k15 : PySem.W.keepIn K (.ref f15) = true)
    (h_a16 : PySem.W.findIn K (.ref C1) ("grow" : Str) = some (some (.ref f16)))
    (h_i16 : PySem.W.isFn K (.ref f16) = true)
    (h_l16 : K.lookup f16 = some ⟨oc16, od16, .func (PySem.W.fnOf "grow" "Space.grow" (defArgs s_Space_grow) (defBody s_Space_grow) (defScope s_Space_grow) .none kV16 dc16 pm16 an16 cd16 ct16), sl16⟩)
    (h_c16 : PySem.W.codeIn K cd16 "Space.grow" = true)
    (h_k16 : PySem.W.keepIn K (.ref f16) = true)
    (h_a17 : PySem.W.nsIn K mainGlobals ("space_of" : Str) = some (some (.ref f17)))
    (h_l17 : K.lookup f17 = some ⟨oc17, od17, .func (PySem.W.fnOf "space_of" "space_of" (defArgs s_space_of) (defBody s_space_of) (defScope s_space_of) .none kV17 dc17 pm17 an17 cd17 ct17), sl17⟩)
    (h_c17 : PySem.W.codeIn K cd17 "space_of" = true)
    (h_k17 : PySem.W.keepIn K (.ref f17) = true)
    (h_a18 : PySem.W.nsIn K mainGlobals ("reduced" : Str) = some (some (.ref f18)))
    (h_l18 : K.lookup f18 = some ⟨oc18, od18, .func (PySem.W.fnOf "reduced" "reduced" (defArgs s_reduced) (defBody s_reduced) (defScope s_reduced) .none kV18 dc18 pm18 an18 cd18 ct18), sl18⟩)
    (h_c18 : PySem.W.codeIn K cd18 "reduced" = true)
    (h_k18 : PySem.W.keepIn K (.ref f18) = true)
    (h_a19 : PySem.W.nsIn K mainGlobals ("rank" : Str) = some (some (.ref f19)))
    (h_l19 : K.lookup f19 = some ⟨oc19, od19, .func (PySem.W.fnOf "rank" "rank" (defArgs s_rank) (defBody s_rank) (defScope s_rank) .none kV19 dc19 pm19 an19 cd19 ct19), sl19⟩)
    (h_c19 : PySem.W.codeIn K cd19 "rank" = true)
    (h_k19 : PySem.W.keepIn K (.ref f19) = true)
    (h_a20 : PySem.W.nsIn K mainGlobals ("solve" : Str) = some (some (.ref f20)))
    (h_l20 : K.lookup f20 = some ⟨oc20, od20, .func (PySem.W.fnOf "solve" "solve" (defArgs s_solve) (defBody s_solve) (defScope s_solve) .none kV20 dc20 pm20 an20 cd20 ct20), sl20⟩)
    (h_c20 : PySem.W.codeIn K cd20 "solve" = true)
    (h_k20 : PySem.W.keepIn K (.ref f20) = true)
    (h_a21 : PySem.W.nsIn K mainGlobals ("inverse" : Str) = some (some (.ref f21)))
    (h_l21 : K.lookup f21 = some ⟨oc21, od21, .func (PySem.W.fnOf "inverse" "inverse" (defArgs s_inverse) (defBody s_inverse) (defScope s_inverse) .none kV21 dc21 pm21 an21 cd21 ct21), sl21⟩)
    (h_c21 : PySem.W.codeIn K cd21 "inverse" = true)
    (h_k21 : PySem.W.keepIn K (.ref f21) = true)
    (h_a22 : PySem.W.nsIn K mainGlobals ("_law_feed" : Str) = some (some (.ref f22)))
    (h_l22 : K.lookup f22 = some ⟨oc22, od22, .func (PySem.W.fnOf "_law_feed" "_law_feed" (defArgs s__law_feed) (defBody s__law_feed) (defScope s__law_feed) .none kV22 dc22 pm22 an22 cd22 ct22), sl22⟩)
    (h_c22 : PySem.W.codeIn K cd22 "_law_feed" = true)
    (h_k22 : PySem.W.keepIn K (.ref f22) = true)
    (h_a23 : PySem.W.nsIn K mainGlobals ("_law_draw" : Str) = some (some (.ref f23)))
    (h_l23 : K.lookup f23 = some ⟨oc23, od23, .func (PySem.W.fnOf "_law_draw" "_law_draw" (defArgs s__law_draw) (defBody s__law_draw) (defScope s__law_draw) .none kV23 dc23 pm23 an23 cd23 ct23), sl23⟩)
    (h_c23 : PySem.W.codeIn K cd23 "_law_draw" = true)
    (h_k23 : PySem.W.keepIn K (.ref f23) = true)
    (h_a24 : PySem.W.nsIn K mainGlobals ("_law_great" : Str) = some (some (.ref f24)))
    (h_l24 : K.lookup f24 = some ⟨oc24, od24, .func (PySem.W.fnOf "_law_great" "_law_great" (defArgs s__law_great) (defBody s__law_great) (defScope s__law_great) .none kV24 dc24 pm24 an24 cd24 ct24), sl24⟩)
    (h_c24 : PySem.W.codeIn K cd24 "_law_great" = true)
    (h_k24 : PySem.W.keepIn K (.ref f24) = true)
    (h_a25 : PySem.W.nsIn K mainGlobals ("_law_pair" : Str) = some (some (.ref f25)))
    (h_l25 : K.lookup f25 = some ⟨oc25, od25, .func (PySem.W.fnOf "_law_pair" "_law_pair" (defArgs s__law_pair) (defBody s__law_pair) (defScope s__law_pair) .none kV25 dc25 pm25 an25 cd25 ct25), sl25⟩)
    (h_c25 : PySem.W.codeIn K cd25 "_law_pair" = true)
    (h_k25 : PySem.W.keepIn K (.ref f25) = true)
    (h_a26 : PySem.W.nsIn K mainGlobals ("_law_sum" : Str) = some (some (.ref f26)))
    (h_l26 : K.lookup f26 = some ⟨oc26, od26, .func (PySem.W.fnOf "_law_sum" "_law_sum" (defArgs s__law_sum) (defBody s__law_sum) (defScope s__law_sum) .none kV26 dc26 pm26 an26 cd26 ct26), sl26⟩)
    (h_c26 : PySem.W.codeIn K cd26 "_law_sum" = true)
    (h_k26 : PySem.W.keepIn K (.ref f26) = true)
    (h_a27 : PySem.W.nsIn K mainGlobals ("_law_by" : Str) = some (some (.ref f27)))
    (h_l27 : K.lookup f27 = some ⟨oc27, od27, .func (PySem.W.fnOf "_law_by" "_law_by" (defArgs s__law_by) (defBody s__law_by) (defScope s__law_by) .none kV27 dc27 pm27 an27 cd27 ct27), sl27⟩)
    (h_c27 : PySem.W.codeIn K cd27 "_law_by" = true)
    (h_k27 : PySem.W.keepIn K (.ref f27) = true)
    (h_a28 : PySem.W.nsIn K mainGlobals ("_law_is_integer" : Str) = some (some (.ref f28)))
    (h_l28 : K.lookup f28 = some ⟨oc28, od28, .func (PySem.W.fnOf "_law_is_integer" "_law_is_integer" (defArgs s__law_is_integer) (defBody s__law_is_integer) (defScope s__law_is_integer) .none kV28 dc28 pm28 an28 cd28 ct28), sl28⟩)
    (h_c28 : PySem.W.codeIn K cd28 "_law_is_integer" = true)
    (h_k28 : PySem.W.keepIn K (.ref f28) = true)
    (h_a29 : PySem.W.nsIn K mainGlobals ("_law_same" : Str) = some (some (.ref f29)))
    (h_l29 : K.lookup f29 = some ⟨oc29, od29, .func (PySem.W.fnOf "_law_same" "_law_same" (defArgs s__law_same) (defBody s__law_same) (defScope s__law_same) .none kV29 dc29 pm29 an29 cd29 ct29), sl29⟩)
    (h_c29 : PySem.W.codeIn K cd29 "_law_same" = true)
    (h_k29 : PySem.W.keepIn K (.ref f29) = true)
    (h_a30 : PySem.W.nsIn K mainGlobals ("_law_same_row" : Str) = some (some (.ref f30)))
    (h_l30 : K.lookup f30 = some ⟨oc30, od30, .func (PySem.W.fnOf "_law_same_row" "_law_same_row" (defArgs s__law_same_row) (defBody s__law_same_row) (defScope s__law_same_row) .none kV30 dc30 pm30 an30 cd30 ct30), sl30⟩)
    (h_c30 : PySem.W.codeIn K cd30 "_law_same_row" = true)
    (h_k30 : PySem.W.keepIn K (.ref f30) = true)
    (h_a31 : PySem.W.nsIn K mainGlobals ("_law_same_table" : Str) = some (some (.ref f31)))
    (h_l31 : K.lookup f31 = some ⟨oc31, od31, .func (PySem.W.fnOf "_law_same_table" "_law_same_table" (defArgs s__law_same_table) (defBody s__law_same_table) (defScope s__law_same_table) .none kV31 dc31 pm31 an31 cd31 ct31), sl31⟩)
    (h_c31 : PySem.W.codeIn K cd31 "_law_same_table" = true)
    (h_k31 : PySem.W.keepIn K (.ref f31) = true)
    (h_a32 : PySem.W.nsIn K mainGlobals ("_law_ratios" : Str) = some (some (.ref f32)))
    (h_l32 : K.lookup f32 = some ⟨oc32, od32, .func (PySem.W.fnOf "_law_ratios" "_law_ratios" (defArgs s__law_ratios) (defBody s__law_ratios) (defScope s__law_ratios) .none kV32 dc32 pm32 an32 cd32 ct32), sl32⟩)
    (h_c32 : PySem.W.codeIn K cd32 "_law_ratios" = true)
    (h_k32 : PySem.W.keepIn K (.ref f32) = true)
    (h_a33 : PySem.W.nsIn K mainGlobals ("_law_ratio_table" : Str) = some (some (.ref f33)))
    (h_l33 : K.lookup f33 = some ⟨oc33, od33, .func (PySem.W.fnOf "_law_ratio_table" "_law_ratio_table" (defArgs s__law_ratio_table) (defBody s__law_ratio_table) (defScope s__law_ratio_table) .none kV33 dc33 pm33 an33 cd33 ct33), sl33⟩)
    (h_c33 : PySem.W.codeIn K cd33 "_law_ratio_table" = true)
    (h_k33 : PySem.W.keepIn K (.ref f33) = true)
    (h_a34 : PySem.W.nsIn K mainGlobals ("_law_number" : Str) = some (some (.ref f34)))
    (h_l34 : K.lookup f34 = some ⟨oc34, od34, .func (PySem.W.fnOf "_law_number" "_law_number" (defArgs s__law_number) (defBody s__law_number) (defScope s__law_number) .none kV34 dc34 pm34 an34 cd34 ct34), sl34⟩)
    (h_c34 : PySem.W.codeIn K cd34 "_law_number" = true)
    (h_k34 : PySem.W.keepIn K (.ref f34) = true)
    (h_a35 : PySem.W.nsIn K mainGlobals ("_law_product" : Str) = some (some (.ref f35)))
    (h_l35 : K.lookup f35 = some ⟨oc35, od35, .func (PySem.W.fnOf "_law_product" "_law_product" (defArgs s__law_product) (defBody s__law_product) (defScope s__law_product) .none kV35 dc35 pm35 an35 cd35 ct35), sl35⟩)
    (h_c35 : PySem.W.codeIn K cd35 "_law_product" = true)
    (h_k35 : PySem.W.keepIn K (.ref f35) = true)
    (h_a36 : PySem.W.nsIn K mainGlobals ("_law_other" : Str) = some (some (.ref f36)))
    (h_l36 : K.lookup f36 = some ⟨oc36, od36, .func (PySem.W.fnOf "_law_other" "_law_other" (defArgs s__law_other) (defBody s__law_other) (defScope s__law_other) .none kV36 dc36 pm36 an36 cd36 ct36), sl36⟩)
    (h_c36 : PySem.W.codeIn K cd36 "_law_other" = true)
    (h_k36 : PySem.W.keepIn K (.ref f36) = true)
    (h_a37 : PySem.W.nsIn K mainGlobals ("_law_added" : Str) = some (some (.ref f37)))
    (h_l37 : K.lookup f37 = some ⟨oc37, od37, .func (PySem.W.fnOf "_law_added" "_law_added" (defArgs s__law_added) (defBody s__law_added) (defScope s__law_added) .none kV37 dc37 pm37 an37 cd37 ct37), sl37⟩)
    (h_c37 : PySem.W.codeIn K cd37 "_law_added" = true)
    (h_k37 : PySem.W.keepIn K (.ref f37) = true)
    (h_a38 : PySem.W.nsIn K mainGlobals ("_law_square" : Str) = some (some (.ref f38)))
    (h_l38 : K.lookup f38 = some ⟨oc38, od38, .func (PySem.W.fnOf "_law_square" "_law_square" (defArgs s__law_square) (defBody s__law_square) (defScope s__law_square) .none kV38 dc38 pm38 an38 cd38 ct38), sl38⟩)
    (h_c38 : PySem.W.codeIn K cd38 "_law_square" = true)
    (h_k38 : PySem.W.keepIn K (.ref f38) = true)
    (h_a39 : PySem.W.nsIn K mainGlobals ("_law_dependent" : Str) = some (some (.ref f39)))
    (h_l39 : K.lookup f39 = some ⟨oc39, od39, .func (PySem.W.fnOf "_law_dependent" "_law_dependent" (defArgs s__law_dependent) (defBody s__law_dependent) (defScope s__law_dependent) .none kV39 dc39 pm39 an39 cd39 ct39), sl39⟩)
    (h_c39 : PySem.W.codeIn K cd39 "_law_dependent" = true)
    (h_k39 : PySem.W.keepIn K (.ref f39) = true)
    (h_a40 : PySem.W.nsIn K mainGlobals ("_law_pairs" : Str) = some (some (.ref f40)))
    (h_l40 : K.lookup f40 = some ⟨oc40, od40, .func (PySem.W.fnOf "_law_pairs" "_law_pairs" (defArgs s__law_pairs) (defBody s__law_pairs) (defScope s__law_pairs) .none kV40 dc40 pm40 an40 cd40 ct40), sl40⟩)
    (h_c40 : PySem.W.codeIn K cd40 "_law_pairs" = true)
    (h_k40 : PySem.W.keepIn K (.ref f40) = true)
    (h_a41 : PySem.W.nsIn K mainGlobals ("law" : Str) = some (some (.ref f41)))
    (h_l41 : K.lookup f41 = some ⟨oc41, od41, .func (PySem.W.fnOf "law" "law" (defArgs s_law) (defBody s_law) (defScope s_law) .none kV41 dc41 pm41 an41 cd41 ct41), sl41⟩)
    (h_c41 : PySem.W.codeIn K cd41 "law" = true)
    (h_k41 : PySem.W.keepIn K (.ref f41) = true)
    (h_pg_0 : PySem.W.plainGet K C0 Str.empty = true)
    (h_hd_0 : PySem.W.hasDictIn K C0 = true)
    (h_po_0 : PySem.W.plainOver K C0 = true)
    (h_sa_0 : PySem.W.findIn K (.ref C0) "__setattr__" = some (some (.builtin "object.__setattr__")))
    (h_mk_0 : PySem.W.makesIn K C0 = true)
    (h_kc_0 : PySem.W.keepIn K (.ref C0) = true)
    (h_ta_0 : PySem.W.findIn K (.ref C0) "__class__" = some (some (.builtin "object.__class__")))
    (h_td_0 : PySem.W.mroIn K C0 (.type "object") = some true)
    (h_sf_0 : PySem.W.selfFirst K C0 = true)
    (h_n_0_top : PySem.W.findIn K (.ref C0) ("top" : Str) = some none)
    (h_n_0_bottom : PySem.W.findIn K (.ref C0) ("bottom" : Str) = some none)
    (h_ic_0_0 : PySem.W.kitOne K (.ref C0) (.ref C0) = some (SG.sub 0 0))
    (h_ic_0_1 : PySem.W.kitOne K (.ref C0) (.ref C1) = some (SG.sub 0 1))
    (h_ib_0_NoneType : PySem.W.kitOne K (.type "NoneType") (.ref C0) = some false)
    (h_it_0_NoneType : PySem.W.kitOne K (.ref C0) (.type "NoneType") = some false)
    (h_ib_0_bool : PySem.W.kitOne K (.type "bool") (.ref C0) = some false)
    (h_it_0_bool : PySem.W.kitOne K (.ref C0) (.type "bool") = some false)
    (h_ib_0_int : PySem.W.kitOne K (.type "int") (.ref C0) = some false)
    (h_it_0_int : PySem.W.kitOne K (.ref C0) (.type "int") = some false)
    (h_ib_0_str : PySem.W.kitOne K (.type "str") (.ref C0) = some false)
    (h_it_0_str : PySem.W.kitOne K (.ref C0) (.type "str") = some false)
    (h_ib_0_tuple : PySem.W.kitOne K (.type "tuple") (.ref C0) = some false)
    (h_it_0_tuple : PySem.W.kitOne K (.ref C0) (.type "tuple") = some false)
    (h_ib_0_list : PySem.W.kitOne K (.type "list") (.ref C0) = some false)
    (h_it_0_list : PySem.W.kitOne K (.ref C0) (.type "list") = some false)
    (h_ib_0_dict : PySem.W.kitOne K (.type "dict") (.ref C0) = some false)
    (h_it_0_dict : PySem.W.kitOne K (.ref C0) (.type "dict") = some false)
    (h_pg_1 : PySem.W.plainGet K C1 Str.empty = true)
    (h_hd_1 : PySem.W.hasDictIn K C1 = true)
    (h_po_1 : PySem.W.plainOver K C1 = true)
    (h_sa_1 : PySem.W.findIn K (.ref C1) "__setattr__" = some (some (.builtin "object.__setattr__")))
    (h_mk_1 : PySem.W.makesIn K C1 = true)
    (h_kc_1 : PySem.W.keepIn K (.ref C1) = true)
    (h_ta_1 : PySem.W.findIn K (.ref C1) "__class__" = some (some (.builtin "object.__class__")))
    (h_td_1 : PySem.W.mroIn K C1 (.type "object") = some true)
    (h_sf_1 : PySem.W.selfFirst K C1 = true)
    (h_n_1_rows : PySem.W.findIn K (.ref C1) ("rows" : Str) = some none)
    (h_ic_1_0 : PySem.W.kitOne K (.ref C1) (.ref C0) = some (SG.sub 1 0))
    (h_ic_1_1 : PySem.W.kitOne K (.ref C1) (.ref C1) = some (SG.sub 1 1))
    (h_ib_1_NoneType : PySem.W.kitOne K (.type "NoneType") (.ref C1) = some false)
    (h_it_1_NoneType : PySem.W.kitOne K (.ref C1) (.type "NoneType") = some false)
    (h_ib_1_bool : PySem.W.kitOne K (.type "bool") (.ref C1) = some false)
    (h_it_1_bool : PySem.W.kitOne K (.ref C1) (.type "bool") = some false)
    (h_ib_1_int : PySem.W.kitOne K (.type "int") (.ref C1) = some false)
    (h_it_1_int : PySem.W.kitOne K (.ref C1) (.type "int") = some false)
    (h_ib_1_str : PySem.W.kitOne K (.type "str") (.ref C1) = some false)
    (h_it_1_str : PySem.W.kitOne K (.ref C1) (.type "str") = some false)
    (h_ib_1_tuple : PySem.W.kitOne K (.type "tuple") (.ref C1) = some false)
    (h_it_1_tuple : PySem.W.kitOne K (.ref C1) (.type "tuple") = some false)
    (h_ib_1_list : PySem.W.kitOne K (.type "list") (.ref C1) = some false)
    (h_it_1_list : PySem.W.kitOne K (.ref C1) (.type "list") = some false)
    (h_ib_1_dict : PySem.W.kitOne K (.type "dict") (.ref C1) = some false)
    (h_it_1_dict : PySem.W.kitOne K (.ref C1) (.type "dict") = some false)
    (h_tb : PySem.W.specialIn K (.builtin "object.__class__") "__get__" = some (some (.builtin "getset_descriptor.__get__")))
    (h_tc : PySem.W.takesIn K (.builtin "object.__class__") = some true)
    (h_tree : l.prog.given.tree = none)
    (h_z_abs : PySem.W.nsIn K mainGlobals ("abs" : Str) = some none)
    (h_z_bool : PySem.W.nsIn K mainGlobals ("bool" : Str) = some none)
    (h_z_enumerate : PySem.W.nsIn K mainGlobals ("enumerate" : Str) = some none)
    (h_z_int : PySem.W.nsIn K mainGlobals ("int" : Str) = some none)
    (h_z_isinstance : PySem.W.nsIn K mainGlobals ("isinstance" : Str) = some none)
    (h_z_len : PySem.W.nsIn K mainGlobals ("len" : Str) = some none)
    (h_z_max : PySem.W.nsIn K mainGlobals ("max" : Str) = some none)
    (h_z_range : PySem.W.nsIn K mainGlobals ("range" : Str) = some none)
    (h_z_sorted : PySem.W.nsIn K mainGlobals ("sorted" : Str) = some none)
    (h_z_tuple : PySem.W.nsIn K mainGlobals ("tuple" : Str) = some none)
    (h_z_zip : PySem.W.nsIn K mainGlobals ("zip" : Str) = some none)
    : ∃ fd : FuncData, (∀ (s : Shared) (u : Value), BindsTo s fd ⟨[u], []⟩ [("script", u)]) ∧ ∀ base : Heap, K.In base → base.Ns mainGlobals mg → base.NoSeer → ∃ G XG : Nat → Option Addr, FnOk l.prog w K mg base (L2.CX l.prog w) 191 fa fd ["script"] (spOf ((Jn.mk SG G XG none).inf K) (FT 150) i_law 1) := by
  have ef : f41 = fa := by
    have e := hfa.symm.trans (PySem.W.mg_of X GG h_a41)
    cases e
    rfl
  subst ef
  have F0 := fun_mk (st := s_shared_part) h_l0 h_c0 h_k0
  have b0 := F0.binds (ps := [("one" : Str), ("other" : Str)]) fun _ _ _ _ _ _ us hl => match us, hl with | [_, _], _ => rfl
  have F1 : FunD K "__init__" "Ratio.__init__" (defArgs s_Ratio___init__) (defBody s_Ratio___init__) (defScope s_Ratio___init__) [V.int 1] [] f1 _ := ⟨⟨_, _, _, _, _, _, _, _, _, _, rfl, h_l1, h_c1, .inr ⟨by simp, dT1, _, _, _, rfl, h_d1, rfl, (.cons ⟨_, rfl⟩ .nil)⟩, .inl rfl⟩, h_k1⟩
  have F2 := fun_mk (st := s_Ratio___add__) h_l2 h_c2 h_k2
  have b2 := F2.binds (ps := [("self" : Str), ("other" : Str)]) fun _ _ _ _ _ _ us hl => match us, hl with | [_, _], _ => rfl
  have F3 := fun_mk (st := s_Ratio___sub__) h_l3 h_c3 h_k3
  have b3 := F3.binds (ps := [("self" : Str), ("other" : Str)]) fun _ _ _ _ _ _ us hl => match us, hl with | [_, _], _ => rfl
  have F4 := fun_mk (st := s_Ratio___mul__) h_l4 h_c4 h_k4
  have b4 := F4.binds (ps := [("self" : Str), ("other" : Str)]) fun _ _ _ _ _ _ us hl => match us, hl with | [_, _], _ => rfl
  have F5 := fun_mk (st := s_Ratio___neg__) h_l5 h_c5 h_k5
  have b5 := F5.binds (ps := [("self" : Str)]) fun _ _ _ _ _ _ us hl => match us, hl with | [_], _ => rfl
  have F6 := fun_mk (st := s_Ratio___eq__) h_l6 h_c6 h_k6
  have b6 := F6.binds (ps := [("self" : Str), ("other" : Str)]) fun _ _ _ _ _ _ us hl => match us, hl with | [_, _], _ => rfl
  have F7 := fun_mk (st := s_Ratio___bool__) h_l7 h_c7 h_k7
  have b7 := F7.binds (ps := [("self" : Str)]) fun _ _ _ _ _ _ us hl => match us, hl with | [_], _ => rfl
  have F8 := fun_mk (st := s_Ratio_over) h_l8 h_c8 h_k8
  have b8 := F8.binds (ps := [("self" : Str), ("other" : Str)]) fun _ _ _ _ _ _ us hl => match us, hl with | [_, _], _ => rfl
  have F9 := fun_mk (st := s_unit) h_l9 h_c9 h_k9
  have b9 := F9.binds (ps := [("size" : Str)]) fun _ _ _ _ _ _ us hl => match us, hl with | [_], _ => rfl
  have F10 := fun_mk (st := s_leading) h_l10 h_c10 h_k10
  have b10 := F10.binds (ps := [("row" : Str)]) fun _ _ _ _ _ _ us hl => match us, hl with | [_], _ => rfl
  have F11 := fun_mk (st := s_scaled_row) h_l11 h_c11 h_k11
  have b11 := F11.binds (ps := [("row" : Str), ("number" : Str)]) fun _ _ _ _ _ _ us hl => match us, hl with | [_, _], _ => rfl
  have F12 := fun_mk (st := s_less) h_l12 h_c12 h_k12
  have b12 := F12.binds (ps := [("row" : Str), ("number" : Str), ("other" : Str)]) fun _ _ _ _ _ _ us hl => match us, hl with | [_, _, _], _ => rfl
  have F13 := fun_mk (st := s_Space___init__) h_l13 h_c13 h_k13
  have b13 := F13.binds (ps := [("self" : Str)]) fun _ _ _ _ _ _ us hl => match us, hl with | [_], _ => rfl
  have F14 := fun_mk (st := s_Space_rest) h_l14 h_c14 h_k14
  have b14 := F14.binds (ps := [("self" : Str), ("row" : Str)]) fun _ _ _ _ _ _ us hl => match us, hl with | [_, _], _ => rfl
  have F15 := fun_mk (st := s_Space_has) h_l15 h_c15 h_k15
  have b15 := F15.binds (ps := [("self" : Str), ("row" : Str)]) fun _ _ _ _ _ _ us hl => match us, hl with | [_, _], _ => rfl
  have F16 := fun_mk (st := s_Space_grow) h_l16 h_c16 h_k16
  have b16 := F16.binds (ps := [("self" : Str), ("row" : Str)]) fun _ _ _ _ _ _ us hl => match us, hl with | [_, _], _ => rfl
  have F17 := fun_mk (st := s_space_of) h_l17 h_c17 h_k17
  have b17 := F17.binds (ps := [("rows" : Str)]) fun _ _ _ _ _ _ us hl => match us, hl with | [_], _ => rfl
  have F18 := fun_mk (st := s_reduced) h_l18 h_c18 h_k18
  have b18 := F18.binds (ps := [("rows" : Str)]) fun _ _ _ _ _ _ us hl => match us, hl with | [_], _ => rfl
  have F19 := fun_mk (st := s_rank) h_l19 h_c19 h_k19
  have b19 := F19.binds (ps := [("rows" : Str)]) fun _ _ _ _ _ _ us hl => match us, hl with | [_], _ => rfl
  have F20 := fun_mk (st := s_solve) h_l20 h_c20 h_k20
  have b20 := F20.binds (ps := [("rows" : Str), ("wanted" : Str)]) fun _ _ _ _ _ _ us hl => match us, hl with | [_, _], _ => rfl
  have F21 := fun_mk (st := s_inverse) h_l21 h_c21 h_k21
  have b21 := F21.binds (ps := [("table" : Str)]) fun _ _ _ _ _ _ us hl => match us, hl with | [_], _ => rfl
  have F22 := fun_mk (st := s__law_feed) h_l22 h_c22 h_k22
  have b22 := F22.binds (ps := [("script" : Str)]) fun _ _ _ _ _ _ us hl => match us, hl with | [_], _ => rfl
  have F23 := fun_mk (st := s__law_draw) h_l23 h_c23 h_k23
  have b23 := F23.binds (ps := [("feed" : Str), ("limit" : Str)]) fun _ _ _ _ _ _ us hl => match us, hl with | [_, _], _ => rfl
  have F24 := fun_mk (st := s__law_great) h_l24 h_c24 h_k24
  have b24 := F24.binds (ps := [("feed" : Str), ("parts" : Str)]) fun _ _ _ _ _ _ us hl => match us, hl with | [_, _], _ => rfl
  have F25 := fun_mk (st := s__law_pair) h_l25 h_c25 h_k25
  have b25 := F25.binds (ps := [("above" : Str), ("below" : Str)]) fun _ _ _ _ _ _ us hl => match us, hl with | [_, _], _ => rfl
  have F26 := fun_mk (st := s__law_sum) h_l26 h_c26 h_k26
  have b26 := F26.binds (ps := [("one" : Str), ("two" : Str)]) fun _ _ _ _ _ _ us hl => match us, hl with | [_, _], _ => rfl
  have F27 := fun_mk (st := s__law_by) h_l27 h_c27 h_k27
  have b27 := F27.binds (ps := [("one" : Str), ("two" : Str)]) fun _ _ _ _ _ _ us hl => match us, hl with | [_, _], _ => rfl
  have F28 := fun_mk (st := s__law_is_integer) h_l28 h_c28 h_k28
  have b28 := F28.binds (ps := [("actual" : Str)]) fun _ _ _ _ _ _ us hl => match us, hl with | [_], _ => rfl
  have F29 := fun_mk (st := s__law_same) h_l29 h_c29 h_k29
  have b29 := F29.binds (ps := [("actual" : Str), ("due" : Str)]) fun _ _ _ _ _ _ us hl => match us, hl with | [_, _], _ => rfl
  have F30 := fun_mk (st := s__law_same_row) h_l30 h_c30 h_k30
  have b30 := F30.binds (ps := [("actual" : Str), ("due" : Str)]) fun _ _ _ _ _ _ us hl => match us, hl with | [_, _], _ => rfl
  have F31 := fun_mk (st := s__law_same_table) h_l31 h_c31 h_k31
  have b31 := F31.binds (ps := [("actual" : Str), ("due" : Str)]) fun _ _ _ _ _ _ us hl => match us, hl with | [_, _], _ => rfl
  have F32 := fun_mk (st := s__law_ratios) h_l32 h_c32 h_k32
  have b32 := F32.binds (ps := [("line" : Str)]) fun _ _ _ _ _ _ us hl => match us, hl with | [_], _ => rfl
  have F33 := fun_mk (st := s__law_ratio_table) h_l33 h_c33 h_k33
  have b33 := F33.binds (ps := [("lines" : Str)]) fun _ _ _ _ _ _ us hl => match us, hl with | [_], _ => rfl
  have F34 := fun_mk (st := s__law_number) h_l34 h_c34 h_k34
  have b34 := F34.binds (ps := [("feed" : Str), ("wide" : Str)]) fun _ _ _ _ _ _ us hl => match us, hl with | [_, _], _ => rfl
  have F35 := fun_mk (st := s__law_product) h_l35 h_c35 h_k35
  have b35 := F35.binds (ps := [("one" : Str), ("two" : Str), ("width" : Str)]) fun _ _ _ _ _ _ us hl => match us, hl with | [_, _, _], _ => rfl
  have F36 := fun_mk (st := s__law_other) h_l36 h_c36 h_k36
  have b36 := F36.binds (ps := [("feed" : Str), ("wide" : Str)]) fun _ _ _ _ _ _ us hl => match us, hl with | [_, _], _ => rfl
  have F37 := fun_mk (st := s__law_added) h_l37 h_c37 h_k37
  have b37 := F37.binds (ps := [("line" : Str), ("number" : Str), ("other" : Str)]) fun _ _ _ _ _ _ us hl => match us, hl with | [_, _, _], _ => rfl
  have F38 := fun_mk (st := s__law_square) h_l38 h_c38 h_k38
  have b38 := F38.binds (ps := [("feed" : Str), ("size" : Str), ("wide" : Str)]) fun _ _ _ _ _ _ us hl => match us, hl with | [_, _, _], _ => rfl
  have F39 := fun_mk (st := s__law_dependent) h_l39 h_c39 h_k39
  have b39 := F39.binds (ps := [("feed" : Str), ("lines" : Str)]) fun _ _ _ _ _ _ us hl => match us, hl with | [_, _], _ => rfl
  have F40 := fun_mk (st := s__law_pairs) h_l40 h_c40 h_k40
  have b40 := F40.binds (ps := [("actual" : Str), ("size" : Str)]) fun _ _ _ _ _ _ us hl => match us, hl with | [_, _], _ => rfl
  have F41 := fun_mk (st := s_law) h_l41 h_c41 h_k41
  have b41 := F41.binds (ps := [("script" : Str)]) fun _ _ _ _ _ _ us hl => match us, hl with | [_], _ => rfl
  let loc : Nat → Option Py.Loc := fun f => ([(0, ⟨f0, (PySem.W.fnOf "shared_part" "shared_part" (defArgs s_shared_part) (defBody s_shared_part) (defScope s_shared_part) .none kV0 dc0 pm0 an0 cd0 ct0), [("one" : Str), ("other" : Str)]⟩), (1, ⟨f1, (PySem.W.fnOf "__init__" "Ratio.__init__" (defArgs s_Ratio___init__) (defBody s_Ratio___init__) (defScope s_Ratio___init__) (.ref dT1) kV1 dc1 pm1 an1 cd1 ct1), [("self" : Str), ("top" : Str), ("bottom" : Str)]⟩), (2, ⟨f2, (PySem.W.fnOf "__add__" "Ratio.__add__" (defArgs s_Ratio___add__) (defBody s_Ratio___add__) (defScope s_Ratio___add__) .none kV2 dc2 pm2 an2 cd2 ct2), [("self" : Str), ("other" : Str)]⟩), (3, ⟨f3, (PySem.W.fnOf "__sub__" "Ratio.__sub__" (defArgs s_Ratio___sub__) (defBody s_Ratio___sub__) (defScope s_Ratio___sub__) .none kV3 dc3 pm3 an3 cd3 ct3), [("self" : Str), ("other" : Str)]⟩), (4, ⟨f4, (PySem.W.fnOf "__mul__" "Ratio.__mul__" (defArgs s_Ratio___mul__) (defBody s_Ratio___mul__) (defScope s_Ratio___mul__) .none kV4 dc4 pm4 an4 cd4 ct4), [("self" : Str), ("other" : Str)]⟩), (5, ⟨f5, (PySem.W.fnOf "__neg__" "Ratio.__neg__" (defArgs s_Ratio___neg__) (defBody s_Ratio___neg__) (defScope s_Ratio___neg__) .none kV5 dc5 pm5 an5 cd5 ct5), [("self" : Str)]⟩), (6, ⟨f6, (PySem.W.fnOf "__eq__" "Ratio.__eq__" (defArgs s_Ratio___eq__) (defBody s_Ratio___eq__) (defScope s_Ratio___eq__) .none kV6 dc6 pm6 an6 cd6 ct6), [("self" : Str), ("other" : Str)]⟩), (7, ⟨f7, (PySem.W.fnOf "__bool__" "Ratio.__bool__" (defArgs s_Ratio___bool__) (defBody s_Ratio___bool__) (defScope s_Ratio___bool__) .none kV7 dc7 pm7 an7 cd7 ct7), [("self" : Str)]⟩), (8, ⟨f8, (PySem.W.fnOf "over" "Ratio.over" (defArgs s_Ratio_over) (defBody s_Ratio_over) (defScope s_Ratio_over) .none kV8 dc8 pm8 an8 cd8 ct8), [("self" : Str), ("other" : Str)]⟩), (9, ⟨f9, (PySem.W.fnOf "unit" "unit" (defArgs s_unit) (defBody s_unit) (defScope s_unit) .none kV9 dc9 pm9 an9 cd9 ct9), [("size" : Str)]⟩), (10, ⟨f10, (PySem.W.fnOf "leading" "leading" (defArgs s_leading) (defBody s_leading) (defScope s_leading) .none kV10 dc10 pm10 an10 cd10 ct10), [("row" : Str)]⟩), (11, ⟨f11, (PySem.W.fnOf "scaled_row" "scaled_row" (defArgs s_scaled_row) (defBody s_scaled_row) (defScope s_scaled_row) .none kV11 dc11 pm11 an11 cd11 ct11), [("row" : Str), ("number" : Str)]⟩), (12, ⟨f12, (PySem.W.fnOf "less" "less" (defArgs s_less) (defBody s_less) (defScope s_less) .none kV12 dc12 pm12 an12 cd12 ct12), [("row" : Str), ("number" : Str), ("other" : Str)]⟩), (13, ⟨f13, (PySem.W.fnOf "__init__" "Space.__init__" (defArgs s_Space___init__) (defBody s_Space___init__) (defScope s_Space___init__) .none kV13 dc13 pm13 an13 cd13 ct13), [("self" : Str)]⟩), (14, ⟨f14, (PySem.W.fnOf "rest" "Space.rest" (defArgs s_Space_rest) (defBody s_Space_rest) (defScope s_Space_rest) .none kV14 dc14 pm14 an14 cd14 ct14), [("self" : Str), ("row" : Str)]⟩), (15, ⟨f15, (PySem.W.fnOf "has" "Space.has" (defArgs s_Space_has) (defBody s_Space_has) (defScope s_Space_has) .none kV15 dc15 pm15 an15 cd15 ct15), [("self" : Str), ("row" : Str)]⟩), (16, ⟨f16, (PySem.W.fnOf "grow" "Space.grow" (defArgs s_Space_grow) (defBody s_Space_grow) (defScope s_Space_grow) .none kV16 dc16 pm16 an16 cd16 ct16), [("self" : Str), ("row" : Str)]⟩), (17, ⟨f17, (PySem.W.fnOf "space_of" "space_of" (defArgs s_space_of) (defBody s_space_of) (defScope s_space_of) .none kV17 dc17 pm17 an17 cd17 ct17), [("rows" : Str)]⟩), (18, ⟨f18, (PySem.W.fnOf "reduced" "reduced" (defArgs s_reduced) (defBody s_reduced) (defScope s_reduced) .none kV18 dc18 pm18 an18 cd18 ct18), [("rows" : Str)]⟩), (19, ⟨f19, (PySem.W.fnOf "rank" "rank" (defArgs s_rank) (defBody s_rank) (defScope s_rank) .none kV19 dc19 pm19 an19 cd19 ct19), [("rows" : Str)]⟩), (20, ⟨f20, (PySem.W.fnOf "solve" "solve" (defArgs s_solve) (defBody s_solve) (defScope s_solve) .none kV20 dc20 pm20 an20 cd20 ct20), [("rows" : Str), ("wanted" : Str)]⟩), (21, ⟨f21, (PySem.W.fnOf "inverse" "inverse" (defArgs s_inverse) (defBody s_inverse) (defScope s_inverse) .none kV21 dc21 pm21 an21 cd21 ct21), [("table" : Str)]⟩), (22, ⟨f22, (PySem.W.fnOf "_law_feed" "_law_feed" (defArgs s__law_feed) (defBody s__law_feed) (defScope s__law_feed) .none kV22 dc22 pm22 an22 cd22 ct22), [("script" : Str)]⟩), (23, ⟨f23, (PySem.W.fnOf "_law_draw" "_law_draw" (defArgs s__law_draw) (defBody s__law_draw) (defScope s__law_draw) .none kV23 dc23 pm23 an23 cd23 ct23), [("feed" : Str), ("limit" : Str)]⟩), (24, ⟨f24, (PySem.W.fnOf "_law_great" "_law_great" (defArgs s__law_great) (defBody s__law_great) (defScope s__law_great) .none kV24 dc24 pm24 an24 cd24 ct24), [("feed" : Str), ("parts" : Str)]⟩), (25, ⟨f25, (PySem.W.fnOf "_law_pair" "_law_pair" (defArgs s__law_pair) (defBody s__law_pair) (defScope s__law_pair) .none kV25 dc25 pm25 an25 cd25 ct25), [("above" : Str), ("below" : Str)]⟩), (26, ⟨f26, (PySem.W.fnOf "_law_sum" "_law_sum" (defArgs s__law_sum) (defBody s__law_sum) (defScope s__law_sum) .none kV26 dc26 pm26 an26 cd26 ct26), [("one" : Str), ("two" : Str)]⟩), (27, ⟨f27, (PySem.W.fnOf "_law_by" "_law_by" (defArgs s__law_by) (defBody s__law_by) (defScope s__law_by) .none kV27 dc27 pm27 an27 cd27 ct27), [("one" : Str), ("two" : Str)]⟩), (28, ⟨f28, (PySem.W.fnOf "_law_is_integer" "_law_is_integer" (defArgs s__law_is_integer) (defBody s__law_is_integer) (defScope s__law_is_integer) .none kV28 dc28 pm28 an28 cd28 ct28), [("actual" : Str)]⟩), (29, ⟨f29, (PySem.W.fnOf "_law_same" "_law_same" (defArgs s__law_same) (defBody s__law_same) (defScope s__law_same) .none kV29 dc29 pm29 an29 cd29 ct29), [("actual" : Str), ("due" : Str)]⟩), (30, ⟨f30, (PySem.W.fnOf "_law_same_row" "_law_same_row" (defArgs s__law_same_row) (defBody s__law_same_row) (defScope s__law_same_row) .none kV30 dc30 pm30 an30 cd30 ct30), [("actual" : Str), ("due" : Str)]⟩), (31, ⟨f31, (PySem.W.fnOf "_law_same_table" "_law_same_table" (defArgs s__law_same_table) (defBody s__law_same_table) (defScope s__law_same_table) .none kV31 dc31 pm31 an31 cd31 ct31), [("actual" : Str), ("due" : Str)]⟩), (32, ⟨f32, (PySem.W.fnOf "_law_ratios" "_law_ratios" (defArgs s__law_ratios) (defBody s__law_ratios) (defScope s__law_ratios) .none kV32 dc32 pm32 an32 cd32 ct32), [("line" : Str)]⟩), (33, ⟨f33, (PySem.W.fnOf "_law_ratio_table" "_law_ratio_table" (defArgs s__law_ratio_table) (defBody s__law_ratio_table) (defScope s__law_ratio_table) .none kV33 dc33 pm33 an33 cd33 ct33), [("lines" : Str)]⟩), (34, ⟨f34, (PySem.W.fnOf "_law_number" "_law_number" (defArgs s__law_number) (defBody s__law_number) (defScope s__law_number) .none kV34 dc34 pm34 an34 cd34 ct34), [("feed" : Str), ("wide" : Str)]⟩), (35, ⟨f35, (PySem.W.fnOf "_law_product" "_law_product" (defArgs s__law_product) (defBody s__law_product) (defScope s__law_product) .none kV35 dc35 pm35 an35 cd35 ct35), [("one" : Str), ("two" : Str), ("width" : Str)]⟩), (36, ⟨f36, (PySem.W.fnOf "_law_other" "_law_other" (defArgs s__law_other) (defBody s__law_other) (defScope s__law_other) .none kV36 dc36 pm36 an36 cd36 ct36), [("feed" : Str), ("wide" : Str)]⟩), (37, ⟨f37, (PySem.W.fnOf "_law_added" "_law_added" (defArgs s__law_added) (defBody s__law_added) (defScope s__law_added) .none kV37 dc37 pm37 an37 cd37 ct37), [("line" : Str), ("number" : Str), ("other" : Str)]⟩), (38, ⟨f38, (PySem.W.fnOf "_law_square" "_law_square" (defArgs s__law_square) (defBody s__law_square) (defScope s__law_square) .none kV38 dc38 pm38 an38 cd38 ct38), [("feed" : Str), ("size" : Str), ("wide" : Str)]⟩), (39, ⟨f39, (PySem.W.fnOf "_law_dependent" "_law_dependent" (defArgs s__law_dependent) (defBody s__law_dependent) (defScope s__law_dependent) .none kV39 dc39 pm39 an39 cd39 ct39), [("feed" : Str), ("lines" : Str)]⟩), (40, ⟨f40, (PySem.W.fnOf "_law_pairs" "_law_pairs" (defArgs s__law_pairs) (defBody s__law_pairs) (defScope s__law_pairs) .none kV40 dc40 pm40 an40 cd40 ct40), [("actual" : Str), ("size" : Str)]⟩), (41, ⟨f41, (PySem.W.fnOf "law" "law" (defArgs s_law) (defBody s_law) (defScope s_law) .none kV41 dc41 pm41 an41 cd41 ct41), [("script" : Str)]⟩)] : List (Nat × Py.Loc)).lookup f
  let ar : Nat → Nat := fun f => (([(0, 2), (1, 3), (2, 2), (3, 2), (4, 2), (5, 1), (6, 2), (7, 1), (8, 2), (9, 1), (10, 1), (11, 2), (12, 3), (13, 1), (14, 2), (15, 2), (16, 2), (17, 1), (18, 1), (19, 1), (20, 2), (21, 1), (22, 1), (23, 2), (24, 2), (25, 2), (26, 2), (27, 2), (28, 1), (29, 2), (30, 2), (31, 2), (32, 1), (33, 1), (34, 2), (35, 3), (36, 2), (37, 3), (38, 3), (39, 2), (40, 2), (41, 1)] : List (Nat × Nat)).lookup f).getD 0
  let G : Nat → Option Addr := fun c => ([(0, C0), (1, C1)] : List (Nat × Addr)).lookup c
  let XG : Nat → Option Addr := fun c => ([] : List (Nat × Addr)).lookup c
  have st : ∀ base : Heap, base.NoSeer → Stat (Jn.mk SG G XG none) l.prog w K mg base loc ar := fun base see => {
    seer := see
    tree := h_tree
    len := lk_all (all_cons (rfl) (all_cons (rfl) (all_cons (rfl) (all_cons (rfl) (all_cons (rfl) (all_cons (rfl) (all_cons (rfl) (all_cons (rfl) (all_cons (rfl) (all_cons (rfl) (all_cons (rfl) (all_cons (rfl) (all_cons (rfl) (all_cons (rfl) (all_cons (rfl) (all_cons (rfl) (all_cons (rfl) (all_cons (rfl) (all_cons (rfl) (all_cons (rfl) (all_cons (rfl) (all_cons (rfl) (all_cons (rfl) (all_cons (rfl) (all_cons (rfl) (all_cons (rfl) (all_cons (rfl) (all_cons (rfl) (all_cons (rfl) (all_cons (rfl) (all_cons (rfl) (all_cons (rfl) (all_cons (rfl) (all_cons (rfl) (all_cons (rfl) (all_cons (rfl) (all_cons (rfl) (all_cons (rfl) (all_cons (rfl) (all_cons (rfl) (all_cons (rfl) (all_cons (rfl) all_nil))))))))))))))))))))))))))))))))))))))))))
    call := fun f x n e => lk_all (L := L_nm) (P := fun f (v : Str × Nat) => ∃ l, loc f = some l ∧ ar f = v.2 ∧ mg v.1 = some (.ref l.fa) ∧ PySem.W.keepIn K (.ref l.fa) = true ∧ Binds K l.fd l.ps []) (all_cons (⟨_, rfl, rfl, PySem.W.mg_of X GG h_a0, h_k0, b0⟩) (all_cons (⟨_, rfl, rfl, PySem.W.mg_of X GG h_a9, h_k9, b9⟩) (all_cons (⟨_, rfl, rfl, PySem.W.mg_of X GG h_a10, h_k10, b10⟩) (all_cons (⟨_, rfl, rfl, PySem.W.mg_of X GG h_a11, h_k11, b11⟩) (all_cons (⟨_, rfl, rfl, PySem.W.mg_of X GG h_a12, h_k12, b12⟩) (all_cons (⟨_, rfl, rfl, PySem.W.mg_of X GG h_a17, h_k17, b17⟩) (all_cons (⟨_, rfl, rfl, PySem.W.mg_of X GG h_a18, h_k18, b18⟩) (all_cons (⟨_, rfl, rfl, PySem.W.mg_of X GG h_a19, h_k19, b19⟩) (all_cons (⟨_, rfl, rfl, PySem.W.mg_of X GG h_a20, h_k20, b20⟩) (all_cons (⟨_, rfl, rfl, PySem.W.mg_of X GG h_a21, h_k21, b21⟩) (all_cons (⟨_, rfl, rfl, PySem.W.mg_of X GG h_a22, h_k22, b22⟩) (all_cons (⟨_, rfl, rfl, PySem.W.mg_of X GG h_a23, h_k23, b23⟩) (all_cons (⟨_, rfl, rfl, PySem.W.mg_of X GG h_a24, h_k24, b24⟩) (all_cons (⟨_, rfl, rfl, PySem.W.mg_of X GG h_a25, h_k25, b25⟩) (all_cons (⟨_, rfl, rfl, PySem.W.mg_of X GG h_a26, h_k26, b26⟩) (all_cons (⟨_, rfl, rfl, PySem.W.mg_of X GG h_a27, h_k27, b27⟩) (all_cons (⟨_, rfl, rfl, PySem.W.mg_of X GG h_a28, h_k28, b28⟩) (all_cons (⟨_, rfl, rfl, PySem.W.mg_of X GG h_a29, h_k29, b29⟩) (all_cons (⟨_, rfl, rfl, PySem.W.mg_of X GG h_a30, h_k30, b30⟩) (all_cons (⟨_, rfl, rfl, PySem.W.mg_of X GG h_a31, h_k31, b31⟩) (all_cons (⟨_, rfl, rfl, PySem.W.mg_of X GG h_a32, h_k32, b32⟩) (all_cons (⟨_, rfl, rfl, PySem.W.mg_of X GG h_a33, h_k33, b33⟩) (all_cons (⟨_, rfl, rfl, PySem.W.mg_of X GG h_a34, h_k34, b34⟩) (all_cons (⟨_, rfl, rfl, PySem.W.mg_of X GG h_a35, h_k35, b35⟩) (all_cons (⟨_, rfl, rfl, PySem.W.mg_of X GG h_a36, h_k36, b36⟩) (all_cons (⟨_, rfl, rfl, PySem.W.mg_of X GG h_a37, h_k37, b37⟩) (all_cons (⟨_, rfl, rfl, PySem.W.mg_of X GG h_a38, h_k38, b38⟩) (all_cons (⟨_, rfl, rfl, PySem.W.mg_of X GG h_a39, h_k39, b39⟩) (all_cons (⟨_, rfl, rfl, PySem.W.mg_of X GG h_a40, h_k40, b40⟩) (all_cons (⟨_, rfl, rfl, PySem.W.mg_of X GG h_a41, h_k41, b41⟩) all_nil)))))))))))))))))))))))))))))) f (x, n) e
    meth := fun f c m n e => lk_all (L := L_mt) (P := fun f (v : Nat × Str × Nat) => ∃ C l, loc f = some l ∧ ar f = v.2.2 ∧ G v.1 = some C ∧ Meth K C v.2.1 l.fa ∧ Binds K l.fd l.ps []) (all_cons (⟨_, _, rfl, rfl, rfl, ⟨h_a2, h_i2, h_k2⟩, b2⟩) (all_cons (⟨_, _, rfl, rfl, rfl, ⟨h_a3, h_i3, h_k3⟩, b3⟩) (all_cons (⟨_, _, rfl, rfl, rfl, ⟨h_a4, h_i4, h_k4⟩, b4⟩) (all_cons (⟨_, _, rfl, rfl, rfl, ⟨h_a5, h_i5, h_k5⟩, b5⟩) (all_cons (⟨_, _, rfl, rfl, rfl, ⟨h_a6, h_i6, h_k6⟩, b6⟩) (all_cons (⟨_, _, rfl, rfl, rfl, ⟨h_a7, h_i7, h_k7⟩, b7⟩) (all_cons (⟨_, _, rfl, rfl, rfl, ⟨h_a8, h_i8, h_k8⟩, b8⟩) (all_cons (⟨_, _, rfl, rfl, rfl, ⟨h_a14, h_i14, h_k14⟩, b14⟩) (all_cons (⟨_, _, rfl, rfl, rfl, ⟨h_a15, h_i15, h_k15⟩, b15⟩) (all_cons (⟨_, _, rfl, rfl, rfl, ⟨h_a16, h_i16, h_k16⟩, b16⟩) all_nil)))))))))) f (c, m, n) e
    fi := fun f c m n e => lk_all (L := L_mt) (P := fun f (v : Nat × Str × Nat) => ∃ (C fa : Addr), G v.1 = some C ∧ Meth K C v.2.1 fa ∧ PySem.W.fnIn K fa = true) (all_cons (⟨_, _, rfl, ⟨h_a2, h_i2, h_k2⟩, by unfold PySem.W.fnIn; rw [h_l2]⟩) (all_cons (⟨_, _, rfl, ⟨h_a3, h_i3, h_k3⟩, by unfold PySem.W.fnIn; rw [h_l3]⟩) (all_cons (⟨_, _, rfl, ⟨h_a4, h_i4, h_k4⟩, by unfold PySem.W.fnIn; rw [h_l4]⟩) (all_cons (⟨_, _, rfl, ⟨h_a5, h_i5, h_k5⟩, by unfold PySem.W.fnIn; rw [h_l5]⟩) (all_cons (⟨_, _, rfl, ⟨h_a6, h_i6, h_k6⟩, by unfold PySem.W.fnIn; rw [h_l6]⟩) (all_cons (⟨_, _, rfl, ⟨h_a7, h_i7, h_k7⟩, by unfold PySem.W.fnIn; rw [h_l7]⟩) (all_cons (⟨_, _, rfl, ⟨h_a8, h_i8, h_k8⟩, by unfold PySem.W.fnIn; rw [h_l8]⟩) (all_cons (⟨_, _, rfl, ⟨h_a14, h_i14, h_k14⟩, by unfold PySem.W.fnIn; rw [h_l14]⟩) (all_cons (⟨_, _, rfl, ⟨h_a15, h_i15, h_k15⟩, by unfold PySem.W.fnIn; rw [h_l15]⟩) (all_cons (⟨_, _, rfl, ⟨h_a16, h_i16, h_k16⟩, by unfold PySem.W.fnIn; rw [h_l16]⟩) all_nil)))))))))) f (c, m, n) e
    make := fun c x f n dfl e => lk_all (L := L_ini) (P := fun c (v : Str × Nat × Nat × List (List V)) => ∃ C l, loc v.2.1 = some l ∧ ar v.2.1 = v.2.2.1 ∧ G c = some C ∧ mg v.1 = some (.ref C) ∧ Mk K C l.fa ∧ ∀ dvs ∈ v.2.2.2, ∃ ds, Vals dvs ds ∧ Binds K l.fd l.ps ds) (all_cons (⟨_, _, rfl, rfl, rfl, PySem.W.mg_of X GG h_aC0, ⟨h_mk_0, h_a1, h_i1, h_kc_0⟩, (all_cons (F1.binds1 (ps := [("self" : Str), ("top" : Str), ("bottom" : Str)]) 3 1 (by simp) rfl fun _ _ _ _ _ _ _ us its h1 h2 => match us, its, h1, h2 with | [_, _, _], [_], _, _ => ⟨_, rfl, rfl⟩) (all_cons (F1.binds1 (ps := [("self" : Str), ("top" : Str), ("bottom" : Str)]) 2 0 (by simp) rfl fun _ _ _ _ _ _ _ us its h1 h2 => match us, its, h1, h2 with | [_, _], [_], _, _ => ⟨_, rfl, rfl⟩) all_nil))⟩) (all_cons (⟨_, _, rfl, rfl, rfl, PySem.W.mg_of X GG h_aC1, ⟨h_mk_1, h_a13, h_i13, h_kc_1⟩, (all_cons (⟨[], .nil, b13⟩) all_nil)⟩) all_nil)) c (x, f, n, dfl) e
    makeK := fun c x f n m ks e => lk_all (L := L_kw) (P := fun c (v : Str × Nat × Nat × Nat × List Str) => ∃ C l, loc v.2.1 = some l ∧ ar v.2.1 = v.2.2.1 ∧ G c = some C ∧ mg v.1 = some (.ref C) ∧ Mk K C l.fa ∧ KBn K l.fd l.ps (v.2.2.2.1 + 1) v.2.2.2.2 (fun us ws => us ++ ws) (fun vs zs => vs ++ zs)) all_nil c (x, f, n, m, ks) e
    prop := fun f c x e => lk_all (L := L_prop) (P := fun f (v : Nat × Str) => ∃ C p l, loc f = some l ∧ ar f = 1 ∧ G v.1 = some C ∧ PropOf K C v.2 p l.fa ∧ Binds K l.fd l.ps []) all_nil f (c, x) e
    cls := lk_all (L := ([(0, C0), (1, C1)] : List (Nat × Addr))) (P := fun c C => Cls K C) (all_cons (⟨h_pg_0, h_hd_0, h_po_0, h_sa_0⟩) (all_cons (⟨h_pg_1, h_hd_1, h_po_1, h_sa_1⟩) all_nil))
    nat := fun c C x g m => lk_all (L := ([(0, C0), (1, C1)] : List (Nat × Addr))) (P := fun c C => ∀ x ∈ SG.fl c, NoAttr K C x) (all_cons ((show ∀ x ∈ SG.fl 0, NoAttr K C0 x from (all_cons (h_n_0_top) (all_cons (h_n_0_bottom) all_nil)))) (all_cons ((show ∀ x ∈ SG.fl 1, NoAttr K C1 x from (all_cons (h_n_1_rows) all_nil))) all_nil)) c C g x m
    glb := mem_all (all_cons (PySem.W.mg_none_of X GG h_z_abs) (all_cons (PySem.W.mg_none_of X GG h_z_bool) (all_cons (PySem.W.mg_none_of X GG h_z_enumerate) (all_cons (PySem.W.mg_none_of X GG h_z_int) (all_cons (PySem.W.mg_none_of X GG h_z_isinstance) (all_cons (PySem.W.mg_none_of X GG h_z_len) (all_cons (PySem.W.mg_none_of X GG h_z_max) (all_cons (PySem.W.mg_none_of X GG h_z_range) (all_cons (PySem.W.mg_none_of X GG h_z_sorted) (all_cons (PySem.W.mg_none_of X GG h_z_tuple) (all_cons (PySem.W.mg_none_of X GG h_z_zip) all_nil)))))))))))
    con := lks_all (L := L_con) (P := fun x v => ∃ u, mg x = some u ∧ RelV v u) all_nil
    cnm := lks_all (L := L_cn) (P := fun x c => ∃ C, G c = some C ∧ mg x = some (.ref C)) (all_cons (⟨_, rfl, PySem.W.mg_of X GG h_aC0⟩) (all_cons (⟨_, rfl, PySem.W.mg_of X GG h_aC1⟩) all_nil))
    ty := lk_all (L := ([(0, C0), (1, C1)] : List (Nat × Addr))) (P := fun c C => PySem.W.findIn K (.ref C) "__class__" = some (some (.builtin "object.__class__")) ∧ PySem.W.specialIn K (.builtin "object.__class__") "__get__" = some (some (.builtin "getset_descriptor.__get__")) ∧ PySem.W.takesIn K (.builtin "object.__class__") = some true ∧ PySem.W.mroIn K C (.type "object") = some true) (all_cons (⟨h_ta_0, h_tb, h_tc, h_td_0⟩) (all_cons (⟨h_ta_1, h_tb, h_tc, h_td_1⟩) all_nil))
    sf := lk_all (L := ([(0, C0), (1, C1)] : List (Nat × Addr))) (P := fun c C => PySem.W.selfFirst K C = true) (all_cons (h_sf_0) (all_cons (h_sf_1) all_nil))
    isc := fun c c' C C' g g' => lk_all (L := ([(0, C0), (1, C1)] : List (Nat × Addr))) (P := fun c C => ∀ c' C', G c' = some C' → PySem.W.kitOne K (.ref C) (.ref C') = some (SG.sub c c')) (all_cons (lk_all (L := ([(0, C0), (1, C1)] : List (Nat × Addr))) (P := fun c' C' => PySem.W.kitOne K (.ref C0) (.ref C') = some (SG.sub 0 c')) (all_cons (h_ic_0_0) (all_cons (h_ic_0_1) all_nil))) (all_cons (lk_all (L := ([(0, C0), (1, C1)] : List (Nat × Addr))) (P := fun c' C' => PySem.W.kitOne K (.ref C1) (.ref C') = some (SG.sub 1 c')) (all_cons (h_ic_1_0) (all_cons (h_ic_1_1) all_nil))) all_nil)) c C g c' C' g'
    isb := fun T c C m g => (show ∀ T ∈ ["NoneType", "bool", "int", "str", "tuple", "list", "dict"], ∀ c C, G c = some C → PySem.W.kitOne K (.type T) (.ref C) = some false from (all_cons (fun c C g => lk_all (L := ([(0, C0), (1, C1)] : List (Nat × Addr))) (P := fun c C => PySem.W.kitOne K (.type "NoneType") (.ref C) = some false) (all_cons (h_ib_0_NoneType) (all_cons (h_ib_1_NoneType) all_nil)) c C g) (all_cons (fun c C g => lk_all (L := ([(0, C0), (1, C1)] : List (Nat × Addr))) (P := fun c C => PySem.W.kitOne K (.type "bool") (.ref C) = some false) (all_cons (h_ib_0_bool) (all_cons (h_ib_1_bool) all_nil)) c C g) (all_cons (fun c C g => lk_all (L := ([(0, C0), (1, C1)] : List (Nat × Addr))) (P := fun c C => PySem.W.kitOne K (.type "int") (.ref C) = some false) (all_cons (h_ib_0_int) (all_cons (h_ib_1_int) all_nil)) c C g) (all_cons (fun c C g => lk_all (L := ([(0, C0), (1, C1)] : List (Nat × Addr))) (P := fun c C => PySem.W.kitOne K (.type "str") (.ref C) = some false) (all_cons (h_ib_0_str) (all_cons (h_ib_1_str) all_nil)) c C g) (all_cons (fun c C g => lk_all (L := ([(0, C0), (1, C1)] : List (Nat × Addr))) (P := fun c C => PySem.W.kitOne K (.type "tuple") (.ref C) = some false) (all_cons (h_ib_0_tuple) (all_cons (h_ib_1_tuple) all_nil)) c C g) (all_cons (fun c C g => lk_all (L := ([(0, C0), (1, C1)] : List (Nat × Addr))) (P := fun c C => PySem.W.kitOne K (.type "list") (.ref C) = some false) (all_cons (h_ib_0_list) (all_cons (h_ib_1_list) all_nil)) c C g) (all_cons (fun c C g => lk_all (L := ([(0, C0), (1, C1)] : List (Nat × Addr))) (P := fun c C => PySem.W.kitOne K (.type "dict") (.ref C) = some false) (all_cons (h_ib_0_dict) (all_cons (h_ib_1_dict) all_nil)) c C g) all_nil)))))))) T m c C g
    ist := fun T c C m g => (show ∀ T ∈ ["NoneType", "bool", "int", "str", "tuple", "list", "dict"], ∀ c C, G c = some C → PySem.W.kitOne K (.ref C) (.type T) = some false from (all_cons (fun c C g => lk_all (L := ([(0, C0), (1, C1)] : List (Nat × Addr))) (P := fun c C => PySem.W.kitOne K (.ref C) (.type "NoneType") = some false) (all_cons (h_it_0_NoneType) (all_cons (h_it_1_NoneType) all_nil)) c C g) (all_cons (fun c C g => lk_all (L := ([(0, C0), (1, C1)] : List (Nat × Addr))) (P := fun c C => PySem.W.kitOne K (.ref C) (.type "bool") = some false) (all_cons (h_it_0_bool) (all_cons (h_it_1_bool) all_nil)) c C g) (all_cons (fun c C g => lk_all (L := ([(0, C0), (1, C1)] : List (Nat × Addr))) (P := fun c C => PySem.W.kitOne K (.ref C) (.type "int") = some false) (all_cons (h_it_0_int) (all_cons (h_it_1_int) all_nil)) c C g) (all_cons (fun c C g => lk_all (L := ([(0, C0), (1, C1)] : List (Nat × Addr))) (P := fun c C => PySem.W.kitOne K (.ref C) (.type "str") = some false) (all_cons (h_it_0_str) (all_cons (h_it_1_str) all_nil)) c C g) (all_cons (fun c C g => lk_all (L := ([(0, C0), (1, C1)] : List (Nat × Addr))) (P := fun c C => PySem.W.kitOne K (.ref C) (.type "tuple") = some false) (all_cons (h_it_0_tuple) (all_cons (h_it_1_tuple) all_nil)) c C g) (all_cons (fun c C g => lk_all (L := ([(0, C0), (1, C1)] : List (Nat × Addr))) (P := fun c C => PySem.W.kitOne K (.ref C) (.type "list") = some false) (all_cons (h_it_0_list) (all_cons (h_it_1_list) all_nil)) c C g) (all_cons (fun c C g => lk_all (L := ([(0, C0), (1, C1)] : List (Nat × Addr))) (P := fun c C => PySem.W.kitOne K (.ref C) (.type "dict") = some false) (all_cons (h_it_0_dict) (all_cons (h_it_1_dict) all_nil)) c C g) all_nil)))))))) T m c C g
    xn := lks_all (L := L_xn) (P := fun x c => ∃ C, XG c = some C ∧ mg x = some (.ref C)) all_nil
    xc := lk_all (L := ([] : List (Nat × Addr))) (P := fun c C => XcF l.prog w K mg base C) all_nil
    xs := fun c c' C C' g g' => lk_all (L := ([] : List (Nat × Addr))) (P := fun c C => ∀ c' C', XG c' = some C' → PySem.W.kitOne K (.ref C) (.ref C') = some (SG.xs c c') ∧ PySem.W.exmOne K (.ref C) (.ref C') = some (SG.xs c c')) all_nil c C g c' C' g'
    xv := lk_all (L := ([] : List (Nat × Addr))) (P := fun c C => PySem.W.kitOne K (.ref C) (.type "ValueError") = some true) all_nil }
  refine ⟨_, fun s u => .of_eq rfl, fun base _ _ see => ⟨G, XG, (kept_all (P := l.prog) (wd := w) (base := base) (ds := DEFS) (st base see) (fun n T => ?_) 150).1 i_law _ rfl⟩⟩
  refine lk_all (P := fun f (v : Py.Loc) => FnOk l.prog w K mg base (L2.CX l.prog w) (n + 42) v.fa v.fd v.ps (spOf ((Jn.mk SG G XG none).inf K) (tabP DEFS (n + 1)).1 f (ar f))) (all_cons (ok_shared_part F0 T (FT_shared_part n)) (all_cons (ok_Ratio___init__ F1 T (FT_Ratio___init__ n)) (all_cons (ok_Ratio___add__ F2 T (FT_Ratio___add__ n)) (all_cons (ok_Ratio___sub__ F3 T (FT_Ratio___sub__ n)) (all_cons (ok_Ratio___mul__ F4 T (FT_Ratio___mul__ n)) (all_cons (ok_Ratio___neg__ F5 T (FT_Ratio___neg__ n)) (all_cons (ok_Ratio___eq__ F6 T (FT_Ratio___eq__ n)) (all_cons (ok_Ratio___bool__ F7 T (FT_Ratio___bool__ n)) (all_cons (ok_Ratio_over F8 T (FT_Ratio_over n)) (all_cons (ok_unit F9 T (FT_unit n)) (all_cons (ok_leading F10 T (FT_leading n)) (all_cons (ok_scaled_row F11 T (FT_scaled_row n)) (all_cons (ok_less F12 T (FT_less n)) (all_cons (ok_Space___init__ F13 T (FT_Space___init__ n)) (all_cons (ok_Space_rest F14 T (FT_Space_rest n)) (all_cons (ok_Space_has F15 T (FT_Space_has n)) (all_cons (ok_Space_grow F16 T (FT_Space_grow n)) (all_cons (ok_space_of F17 T (FT_space_of n)) (all_cons (ok_reduced F18 T (FT_reduced n)) (all_cons (ok_rank F19 T (FT_rank n)) (all_cons (ok_solve F20 T (FT_solve n)) (all_cons (ok_inverse F21 T (FT_inverse n)) (all_cons (ok__law_feed F22 T (FT__law_feed n)) (all_cons (ok__law_draw F23 T (FT__law_draw n)) (all_cons (ok__law_great F24 T (FT__law_great n)) (all_cons (ok__law_pair F25 T (FT__law_pair n)) (all_cons (ok__law_sum F26 T (FT__law_sum n)) (all_cons (ok__law_by F27 T (FT__law_by n)) (all_cons (ok__law_is_integer F28 T (FT__law_is_integer n)) (all_cons (ok__law_same F29 T (FT__law_same n)) (all_cons (ok__law_same_row F30 T (FT__law_same_row n)) (all_cons (ok__law_same_table F31 T (FT__law_same_table n)) (all_cons (ok__law_ratios F32 T (FT__law_ratios n)) (all_cons (ok__law_ratio_table F33 T (FT__law_ratio_table n)) (all_cons (ok__law_number F34 T (FT__law_number n)) (all_cons (ok__law_product F35 T (FT__law_product n)) (all_cons (ok__law_other F36 T (FT__law_other n)) (all_cons (ok__law_added F37 T (FT__law_added n)) (all_cons (ok__law_square F38 T (FT__law_square n)) (all_cons (ok__law_dependent F39 T (FT__law_dependent n)) (all_cons (ok__law_pairs F40 T (FT__law_pairs n)) (all_cons (ok_law F41 T (FT_law n)) all_nil))))))))))))))))))))))))))))))))))))))))))
end Lw
open PySem PySem.W PyProof.Rows Py in
set_option maxHeartbeats 0 in
theorem PySem.Challenge.cw_wordworth_k07_inverse_holds : PySem.Challenge.rw_wordworth_k07_inverse.Holds := by
  w_on; o_law; k_head; (case hw => w_witness2)
  k_fill
  refine Py.law_end (l := PySem.Challenge.rw_wordworth_k07_inverse) (k := 191) (f := Lw.i_law) (F := Lw.FT 150) (sg := Lw.SG) rfl rfl ⟨rfl, by decide, by decide⟩ (by decide +kernel) (fun w h Y => PySem.W.kIn_of Y) ?F Lw.law_holds
  case F =>
    intro w mg fa h KX G hmg
    refine' Lw.all_mk KX G hmg ?h_aC0 ?h_aC1 ?h_a0 ?h_l0 ?h_c0 ?h_k0 ?h_a1 ?h_i1 ?h_l1 ?h_d1 ?h_c1 ?h_k1 ?h_a2 ?h_i2 ?h_l2 ?h_c2 ?h_k2 ?h_a3 ?h_i3 ?h_l3 ?h_c3 ?h_k3 ?h_a4 ?h_i4 ?h_l4 ?h_c4 ?h_k4 ?h_a5 ?h_i5 ?h_l5 ?h_c5 ?h_k5 ?h_a6 ?h_i6 ?h_l6 ?h_c6 ?h_k6 ?h_a7 ?h_i7 ?h_l7 ?h_c7 ?h_k7 ?h_a8 ?h_i8 ?h_l8 ?h_c8 ?h_k8 ?h_a9 ?h_l9 ?h_c9 ?h_k9 ?h_a10 ?h_l10 ?h_c10 ?h_k10 ?h_a11 ?h_l11 ?h_c11 ?h_k11 ?h_a12 ?h_l12 ?h_c12 ?h_k12 ?h_a13 ?h_i13 ?h_l13 ?h_c13 ?h_k13 ?h_a14 ?h_i14 ?h_l14 ?h_c14 ?h_k14 ?h_a15 ?h_i15 ?h_l15 ?h_c15 ?h_k15 ?h_a16 ?h_i16 ?h_l16 ?h_c16 ?h_k16 ?h_a17 ?h_l17 ?h_c17 ?h_k17 ?h_a18 ?h_l18 ?h_c18 ?h_k18 ?h_a19 ?h_l19 ?h_c19 ?h_k19 ?h_a20 ?h_l20 ?h_c20 ?h_k20 ?h_a21 ?h_l21 ?h_c21 ?h_k21 ?h_a22 ?h_l22 ?h_c22 ?h_k22 ?h_a23 ?h_l23 ?h_c23 ?h_k23 ?h_a24 ?h_l24 ?h_c24 ?h_k24 ?h_a25 ?h_l25 ?h_c25 ?h_k25 ?h_a26 ?h_l26 ?h_c26 ?h_k26 ?h_a27 ?h_l27 ?h_c27 ?h_k27 ?h_a28 ?h_l28 ?h_c28 ?h_k28 ?h_a29 ?h_l29 ?h_c29 ?h_k29 ?h_a30 ?h_l30 ?h_c30 ?h_k30 ?h_a31 ?h_l31 ?h_c31 ?h_k31 ?h_a32 ?h_l32 ?h_c32 ?h_k32 ?h_a33 ?h_l33 ?h_c33 ?h_k33 ?h_a34 ?h_l34 ?h_c34 ?h_k34 ?h_a35 ?h_l35 ?h_c35 ?h_k35 ?h_a36 ?h_l36 ?h_c36 ?h_k36 ?h_a37 ?h_l37 ?h_c37 ?h_k37 ?h_a38 ?h_l38 ?h_c38 ?h_k38 ?h_a39 ?h_l39 ?h_c39 ?h_k39 ?h_a40 ?h_l40 ?h_c40 ?h_k40 ?h_a41 ?h_l41 ?h_c41 ?h_k41 ?h_pg_0 ?h_hd_0 ?h_po_0 ?h_sa_0 ?h_mk_0 ?h_kc_0 ?h_ta_0 ?h_td_0 ?h_sf_0 ?h_n_0_top ?h_n_0_bottom ?h_ic_0_0 ?h_ic_0_1 ?h_ib_0_NoneType ?h_it_0_NoneType ?h_ib_0_bool ?h_it_0_bool ?h_ib_0_int ?h_it_0_int ?h_ib_0_str ?h_it_0_str ?h_ib_0_tuple ?h_it_0_tuple ?h_ib_0_list ?h_it_0_list ?h_ib_0_dict ?h_it_0_dict ?h_pg_1 ?h_hd_1 ?h_po_1 ?h_sa_1 ?h_mk_1 ?h_kc_1 ?h_ta_1 ?h_td_1 ?h_sf_1 ?h_n_1_rows ?h_ic_1_0 ?h_ic_1_1 ?h_ib_1_NoneType ?h_it_1_NoneType ?h_ib_1_bool ?h_it_1_bool ?h_ib_1_int ?h_it_1_int ?h_ib_1_str ?h_it_1_str ?h_ib_1_tuple ?h_it_1_tuple ?h_ib_1_list ?h_it_1_list ?h_ib_1_dict ?h_it_1_dict ?h_tb ?h_tc ?h_tree ?h_z_abs ?h_z_bool ?h_z_enumerate ?h_z_int ?h_z_isinstance ?h_z_len ?h_z_max ?h_z_range ?h_z_sorted ?h_z_tuple ?h_z_zip
    (case h_aC0 => k_is)
    (case h_aC1 => k_is)
    (case h_a0 => k_is)
    (case h_l0 => k_is)
    (case h_c0 => k_is)
    (case h_k0 => k_is)
    (case h_a1 => k_is)
    (case h_i1 => k_is)
    (case h_l1 => k_is)
    (case h_d1 => k_is)
    (case h_c1 => k_is)
    (case h_k1 => k_is)
    (case h_a2 => k_is)
    (case h_i2 => k_is)
    (case h_l2 => k_is)
    (case h_c2 => k_is)
    (case h_k2 => k_is)
    (case h_a3 => k_is)
    (case h_i3 => k_is)
    (case h_l3 => k_is)
    (case h_c3 => k_is)
    (case h_k3 => k_is)
    (case h_a4 => k_is)
    (case h_i4 => k_is)
    (case h_l4 => k_is)
    (case h_c4 => k_is)
    (case h_k4 => k_is)
    (case h_a5 => k_is)
    (case h_i5 => k_is)
    (case h_l5 => k_is)
    (case h_c5 => k_is)
    (case h_k5 => k_is)
    (case h_a6 => k_is)
    (case h_i6 => k_is)
    (case h_l6 => k_is)
    (case h_c6 => k_is)
    (case h_k6 => k_is)
    (case h_a7 => k_is)
    (case h_i7 => k_is)
    (case h_l7 => k_is)
    (case h_c7 => k_is)
    (case h_k7 => k_is)
    (case h_a8 => k_is)
    (case h_i8 => k_is)
    (case h_l8 => k_is)
    (case h_c8 => k_is)
    (case h_k8 => k_is)
    (case h_a9 => k_is)
    (case h_l9 => k_is)
    (case h_c9 => k_is)
    (case h_k9 => k_is)
    (case h_a10 => k_is)
    (case h_l10 => k_is)
    (case h_c10 => k_is)
    (case h_k10 => k_is)
    (case h_a11 => k_is)
    (case h_l11 => k_is)
    (case h_c11 => k_is)
    (case h_k11 => k_is)
    (case h_a12 => k_is)
    (case h_l12 => k_is)
    (case h_c12 => k_is)
    (case h_k12 => k_is)
    (case h_a13 => k_is)
    (case h_i13 => k_is)
    (case h_l13 => k_is)
    (case h_c13 => k_is)
    (case h_k13 => k_is)
    (case h_a14 => k_is)
    (case h_i14 => k_is)
    (case h_l14 => k_is)
    (case h_c14 => k_is)
    (case h_k14 => k_is)
    (case h_a15 => k_is)
    (case h_i15 => k_is)
    (case h_l15 => k_is)
    (case h_c15 => k_is)
    (case h_k15 => k_is)
    (case h_a16 => k_is)
    (case h_i16 => k_is)
    (case h_l16 => k_is)
    (case h_c16 => k_is)
    (case h_k16 => k_is)
    (case h_a17 => k_is)
    (case h_l17 => k_is)
    (case h_c17 => k_is)
    (case h_k17 => k_is)
    (case h_a18 => k_is)
    (case h_l18 => k_is)
    (case h_c18 => k_is)
    (case h_k18 => k_is)
    (case h_a19 => k_is)
    (case h_l19 => k_is)
    (case h_c19 => k_is)
    (case h_k19 => k_is)
    (case h_a20 => k_is)
    (case h_l20 => k_is)
    (case h_c20 => k_is)
    (case h_k20 => k_is)
    (case h_a21 => k_is)
    (case h_l21 => k_is)
    (case h_c21 => k_is)
    (case h_k21 => k_is)
    (case h_a22 => k_is)
    (case h_l22 => k_is)
    (case h_c22 => k_is)
    (case h_k22 => k_is)
    (case h_a23 => k_is)
    (case h_l23 => k_is)
    (case h_c23 => k_is)
    (case h_k23 => k_is)
    (case h_a24 => k_is)
    (case h_l24 => k_is)
    (case h_c24 => k_is)
    (case h_k24 => k_is)
    (case h_a25 => k_is)
    (case h_l25 => k_is)
    (case h_c25 => k_is)
    (case h_k25 => k_is)
    (case h_a26 => k_is)
    (case h_l26 => k_is)
    (case h_c26 => k_is)
    (case h_k26 => k_is)
    (case h_a27 => k_is)
    (case h_l27 => k_is)
    (case h_c27 => k_is)
    (case h_k27 => k_is)
    (case h_a28 => k_is)
    (case h_l28 => k_is)
    (case h_c28 => k_is)
    (case h_k28 => k_is)
    (case h_a29 => k_is)
    (case h_l29 => k_is)
    (case h_c29 => k_is)
    (case h_k29 => k_is)
    (case h_a30 => k_is)
    (case h_l30 => k_is)
    (case h_c30 => k_is)
    (case h_k30 => k_is)
    (case h_a31 => k_is)
    (case h_l31 => k_is)
    (case h_c31 => k_is)
    (case h_k31 => k_is)
    (case h_a32 => k_is)
    (case h_l32 => k_is)
    (case h_c32 => k_is)
    (case h_k32 => k_is)
    (case h_a33 => k_is)
    (case h_l33 => k_is)
    (case h_c33 => k_is)
    (case h_k33 => k_is)
    (case h_a34 => k_is)
    (case h_l34 => k_is)
    (case h_c34 => k_is)
    (case h_k34 => k_is)
    (case h_a35 => k_is)
    (case h_l35 => k_is)
    (case h_c35 => k_is)
    (case h_k35 => k_is)
    (case h_a36 => k_is)
    (case h_l36 => k_is)
    (case h_c36 => k_is)
    (case h_k36 => k_is)
    (case h_a37 => k_is)
    (case h_l37 => k_is)
    (case h_c37 => k_is)
    (case h_k37 => k_is)
    (case h_a38 => k_is)
    (case h_l38 => k_is)
    (case h_c38 => k_is)
    (case h_k38 => k_is)
    (case h_a39 => k_is)
    (case h_l39 => k_is)
    (case h_c39 => k_is)
    (case h_k39 => k_is)
    (case h_a40 => k_is)
    (case h_l40 => k_is)
    (case h_c40 => k_is)
    (case h_k40 => k_is)
    (case h_a41 => k_is)
    (case h_l41 => k_is)
    (case h_c41 => k_is)
    (case h_k41 => k_is)
    (case h_pg_0 => k_is)
    (case h_hd_0 => k_is)
    (case h_po_0 => k_is)
    (case h_sa_0 => k_is)
    (case h_mk_0 => k_is)
    (case h_kc_0 => k_is)
    (case h_ta_0 => k_is)
    (case h_td_0 => k_is)
    (case h_sf_0 => k_is)
    (case h_n_0_top => k_is)
    (case h_n_0_bottom => k_is)
    (case h_ic_0_0 => kit_is)
    (case h_ic_0_1 => kit_is)
    (case h_ib_0_NoneType => kit_is)
    (case h_it_0_NoneType => kit_is)
    (case h_ib_0_bool => kit_is)
    (case h_it_0_bool => kit_is)
    (case h_ib_0_int => kit_is)
    (case h_it_0_int => kit_is)
    (case h_ib_0_str => kit_is)
    (case h_it_0_str => kit_is)
    (case h_ib_0_tuple => kit_is)
    (case h_it_0_tuple => kit_is)
    (case h_ib_0_list => kit_is)
    (case h_it_0_list => kit_is)
    (case h_ib_0_dict => kit_is)
    (case h_it_0_dict => kit_is)
    (case h_pg_1 => k_is)
    (case h_hd_1 => k_is)
    (case h_po_1 => k_is)
    (case h_sa_1 => k_is)
    (case h_mk_1 => k_is)
    (case h_kc_1 => k_is)
    (case h_ta_1 => k_is)
    (case h_td_1 => k_is)
    (case h_sf_1 => k_is)
    (case h_n_1_rows => k_is)
    (case h_ic_1_0 => kit_is)
    (case h_ic_1_1 => kit_is)
    (case h_ib_1_NoneType => kit_is)
    (case h_it_1_NoneType => kit_is)
    (case h_ib_1_bool => kit_is)
    (case h_it_1_bool => kit_is)
    (case h_ib_1_int => kit_is)
    (case h_it_1_int => kit_is)
    (case h_ib_1_str => kit_is)
    (case h_it_1_str => kit_is)
    (case h_ib_1_tuple => kit_is)
    (case h_it_1_tuple => kit_is)
    (case h_ib_1_list => kit_is)
    (case h_it_1_list => kit_is)
    (case h_ib_1_dict => kit_is)
    (case h_it_1_dict => kit_is)
    (case h_tb => k_is)
    (case h_tc => k_is)
    (case h_tree => rfl)
    (case h_z_abs => k_is)
    (case h_z_bool => k_is)
    (case h_z_enumerate => k_is)
    (case h_z_int => k_is)
    (case h_z_isinstance => k_is)
    (case h_z_len => k_is)
    (case h_z_max => k_is)
    (case h_z_range => k_is)
    (case h_z_sorted => k_is)
    (case h_z_tuple => k_is)
    (case h_z_zip => k_is)
#print axioms PySem.Challenge.cw_wordworth_k07_inverse_holds
