import PyProof.Rows.All
import Wide.All
import OpenK.AllK
import Wide.FinOn
import HandS.ForMost
import HandS.ForExc
import HandS.Walk
import HandS.IsInst
import HandS.Property
import HandS.CallSlots
import HandS.Defaults
import HandS.Zip
import HandS.Flow
import HandS.Wide
import KE.KExcSuper
import KE.KExcIs
import HandS.ExcInit
import HandS.ExcIs
import HandS.ExcField
import HandS.Nested
import HandS.More
import HandS.TupAny
import HandS.MakeKw
import HandS.Text
import HandS.SortInts
import HandS.Deep
import KE.GoesZip
import KE.GoesMore
import HandS.Rev
import HandS.EndBits
import KE.GoesEnum
import HandS.Star
import HandS.Replace
import PyProof.Rows.Range3
import PyProof.Conv_bool
import HandS.Style
import PyProof.Rows.StrRev
import HandS.TupLe
import KE.SortKeyHeap
import HandS.SortKw
import HandS.Dict
import HandS.HeadHook3
import PySem.Challenge.RW_wordworth_k26_write_sum
set_option Elab.async false
set_option linter.all false
set_option maxRecDepth 100000
set_option maxHeartbeats 1000000

/-! Py1: values, stores, what stands for what. -/
namespace Py
open PySem PySem.Spec PyProof.Rows L2

/-- plain data: it never changes -/
inductive D where
  | non | bl (b : Bool) | int (i : Int) | str (x : Str)
  | tup (xs : List D) | lst (xs : List D) | lsx (xs : List D)
  | obj (c : Nat) (xs : List D)
  | dK (kvs : List (Key × D)) | dT (kvs : List (List Key × D))
/-- a value of a slot: data, or a cell of the store -/
inductive W where
  | d (x : D) | c (i : Nat) | e (c : Nat) (x : D)
/-- what a cell holds -/
inductive Ce where
  | dead
  | lst (ws : List W)
  | ins (c : Nat) (ws : List W)
  | dK (kvs : List (Key × W)) | dT (kvs : List (List Key × W))
abbrev Sto := List Ce
abbrev Env := List (Option W)
/-- how an expression ends -/
inductive R (α : Type) where
  | ok (a : α) (S : Sto)
  | exc (c : Nat) (x : D) (S : Sto)
  | bad
/-- how a statement ends -/
inductive RS where
  | nx (e : Env) (S : Sto)
  | rt (w : W) (S : Sto)
  | bk (e : Env) (S : Sto)
  | ct (e : Env) (S : Sto)
  | exc (c : Nat) (x : D) (e : Env) (S : Sto)
  | bad
@[simp] def R.bind {α β : Type} (r : R α) (f : α → Sto → R β) : R β := match r with
  | .ok a S => f a S
  | .exc c x S => .exc c x S
  | .bad => .bad
abbrev DE := Env → Sto → R W
abbrev DT := Env → Sto → R Bool
abbrev DA := Env → Sto → R (List W)
abbrev DS := Env → Sto → RS
abbrev FnTab := Nat → List W → Sto → R W

/-- the written part, the classes' addresses, their fields -/
structure Inf where
  K : PySem.W.Frag
  G : Nat → Option Addr
  fl : Nat → List Str
  X : Nat → Option Addr
  ex : Option (Addr × Value × Option Addr)

mutual
inductive Rep (I : Inf) (H : Hp) : D → V → Prop
  | non : Rep I H .non .non
  | bl (b : Bool) : Rep I H (.bl b) (.bl b)
  | int (i : Int) : Rep I H (.int i) (.int i)
  | str (x : Str) : Rep I H (.str x) (.str x)
  | tup {a : Addr} {xs : List D} {vs : List V} (h : SqT I.K H a vs) (r : Reps I H xs vs) : Rep I H (.tup xs) (.ref a)
  | lst {a : Addr} {xs : List D} {vs : List V} (h : H a = some (.lst vs)) (r : Reps I H xs vs) : Rep I H (.lst xs) (.ref a)
  | lsx {a : Addr} {xs : List D} {vs : List V} (h : SqL I.K H a vs) (r : Reps I H xs vs) : Rep I H (.lsx xs) (.ref a)
  | obj {a C dx : Addr} {c : Nat} {xs : List D} {vs : List V} (g : I.G c = some C) (h : H a = some (.ins C dx ((I.fl c).zip vs))) (l : vs.length = (I.fl c).length) (r : Reps I H xs vs) : Rep I H (.obj c xs) (.ref a)
  | dK {a : Addr} {kvs : List (Key × D)} {us : List (Key × V)} (h : H a = some (.dK us)) (r : RepK I H kvs us) : Rep I H (.dK kvs) (.ref a)
  | dT {a : Addr} {kvs : List (List Key × D)} {us : List (List Key × V)} (h : H a = some (.dT us)) (r : RepT I H kvs us) : Rep I H (.dT kvs) (.ref a)
inductive Reps (I : Inf) (H : Hp) : List D → List V → Prop
  | nil : Reps I H [] []
  | cons {x : D} {v : V} {xs : List D} {vs : List V} (r : Rep I H x v) (t : Reps I H xs vs) : Reps I H (x :: xs) (v :: vs)
inductive RepK (I : Inf) (H : Hp) : List (Key × D) → List (Key × V) → Prop
  | nil : RepK I H [] []
  | cons {k : Key} {x : D} {v : V} {xs : List (Key × D)} {vs : List (Key × V)} (r : Rep I H x v) (t : RepK I H xs vs) : RepK I H ((k, x) :: xs) ((k, v) :: vs)
inductive RepT (I : Inf) (H : Hp) : List (List Key × D) → List (List Key × V) → Prop
  | nil : RepT I H [] []
  | cons {k : List Key} {x : D} {v : V} {xs : List (List Key × D)} {vs : List (List Key × V)} (r : Rep I H x v) (t : RepT I H xs vs) : RepT I H ((k, x) :: xs) ((k, v) :: vs)
end

/-- all of H is in H' -/
def Ex (H H' : Hp) : Prop := ∀ a o, H a = some o → H' a = some o
theorem Ex.refl (H : Hp) : Ex H H := fun _ _ h => h
theorem Ex.trans {H H1 H2 : Hp} (a : Ex H H1) (b : Ex H1 H2) : Ex H H2 := fun x o h => b x o (a x o h)
theorem ex_rd {H H' : Hp} {a : Addr} {u : HO} (e : Ex H H') (h : Rd H a u) : Rd H' a u := by
  rcases h with h | ⟨o, h⟩
  · exact Or.inl (e a _ h)
  · exact Or.inr ⟨o, e a _ h⟩
theorem ex_l {K : PySem.W.Frag} {H H' : Hp} {a : Addr} {xs : List V} (e : Ex H H') (h : SqL K H a xs) : SqL K H' a xs := by
  rcases h with h | h
  · exact Or.inl (ex_rd e h)
  · exact Or.inr h
theorem ex_t {K : PySem.W.Frag} {H H' : Hp} {a : Addr} {xs : List V} (e : Ex H H') (h : SqT K H a xs) : SqT K H' a xs := by
  rcases h with h | h
  · exact Or.inl (ex_rd e h)
  · exact Or.inr h
mutual
theorem Rep.mono {I : Inf} {H H' : Hp} (e : Ex H H') : ∀ {d : D} {v : V}, Rep I H d v → Rep I H' d v
  | _, _, .non => .non
  | _, _, .bl b => .bl b
  | _, _, .int i => .int i
  | _, _, .str x => .str x
  | _, _, .tup h r => .tup (ex_t e h) (Reps.mono e r)
  | _, _, .lst h r => .lst (e _ _ h) (Reps.mono e r)
  | _, _, .lsx h r => .lsx (ex_l e h) (Reps.mono e r)
  | _, _, .obj g h l r => .obj g (e _ _ h) l (Reps.mono e r)
  | _, _, .dK h r => .dK (e _ _ h) (RepK.mono e r)
  | _, _, .dT h r => .dT (e _ _ h) (RepT.mono e r)
theorem Reps.mono {I : Inf} {H H' : Hp} (e : Ex H H') : ∀ {d : List D} {v : List V}, Reps I H d v → Reps I H' d v
  | _, _, .nil => .nil
  | _, _, .cons r t => .cons (Rep.mono e r) (Reps.mono e t)
theorem RepK.mono {I : Inf} {H H' : Hp} (e : Ex H H') : ∀ {d : List (Key × D)} {v : List (Key × V)}, RepK I H d v → RepK I H' d v
  | _, _, .nil => .nil
  | _, _, .cons r t => .cons (Rep.mono e r) (RepK.mono e t)
theorem RepT.mono {I : Inf} {H H' : Hp} (e : Ex H H') : ∀ {d : List (List Key × D)} {v : List (List Key × V)}, RepT I H d v → RepT I H' d v
  | _, _, .nil => .nil
  | _, _, .cons r t => .cons (Rep.mono e r) (RepT.mono e t)
end
theorem Reps.len {I : Inf} {H : Hp} : ∀ {d : List D} {v : List V}, Reps I H d v → d.length = v.length
  | _, _, .nil => rfl
  | _, _, .cons _ t => congrArg (· + 1) (Reps.len t)
theorem Reps.get {I : Inf} {H : Hp} : ∀ {d : List D} {v : List V} {i : Nat} {x : D}, Reps I H d v → d[i]? = some x → ∃ u, v[i]? = some u ∧ Rep I H x u
  | _, _, _, _, .nil, e => by simp at e
  | _, _, 0, _, .cons r _, e => by simp at e; subst e; exact ⟨_, rfl, r⟩
  | _, _, i + 1, x, .cons _ t, e => by
    obtain ⟨u, h1, h2⟩ := Reps.get (i := i) (x := x) t (by simpa using e)
    exact ⟨u, by simpa using h1, h2⟩
theorem Reps.getV {I : Inf} {H : Hp} : ∀ {d : List D} {v : List V} {i : Nat} {u : V}, Reps I H d v → v[i]? = some u → ∃ x, d[i]? = some x ∧ Rep I H x u
  | _, _, _, _, .nil, e => by simp at e
  | _, _, 0, _, .cons r _, e => by simp at e; subst e; exact ⟨_, rfl, r⟩
  | _, _, i + 1, x, .cons _ t, e => by
    obtain ⟨u, h1, h2⟩ := Reps.getV (i := i) (u := x) t (by simpa using e)
    exact ⟨u, by simpa using h1, h2⟩
theorem Reps.append {I : Inf} {H : Hp} : ∀ {d e : List D} {v u : List V}, Reps I H d v → Reps I H e u → Reps I H (d ++ e) (v ++ u)
  | _, _, _, _, .nil, s => s
  | _, _, _, _, .cons r t, s => .cons r (Reps.append t s)
theorem Reps.take {I : Inf} {H : Hp} : ∀ {d : List D} {v : List V} (n : Nat), Reps I H d v → Reps I H (d.take n) (v.take n)
  | _, _, 0, _ => .nil
  | _, _, _ + 1, .nil => .nil
  | _, _, n + 1, .cons r t => .cons r (Reps.take n t)
theorem Reps.drop {I : Inf} {H : Hp} : ∀ {d : List D} {v : List V} (n : Nat), Reps I H d v → Reps I H (d.drop n) (v.drop n)
  | _, _, 0, r => r
  | _, _, _ + 1, .nil => .nil
  | _, _, n + 1, .cons _ t => Reps.drop n t
theorem Reps.reverse {I : Inf} {H : Hp} {d : List D} {v : List V} (r : Reps I H d v) : Reps I H d.reverse v.reverse := by
  induction d generalizing v with
  | nil => cases r; exact .nil
  | cons x xs ih =>
    cases r with
    | cons r t =>
      rw [List.reverse_cons, List.reverse_cons]
      exact (ih t).append (.cons r .nil)
theorem Reps.rep {I : Inf} {H : Hp} {d : List D} {v : List V} (r : Reps I H d v) : ∀ k : Nat, Reps I H (List.replicate k d).flatten (List.replicate k v).flatten
  | 0 => .nil
  | k + 1 => by
    rw [List.replicate_succ, List.replicate_succ, List.flatten_cons, List.flatten_cons]
    exact r.append (Reps.rep r k)

/-! ### the store -/
open Classical in
/-- the addresses of living cells are hidden -/
noncomputable def mask (S : Sto) (M : List Addr) (H : Hp) : Hp := fun a => if ∃ (i : Nat) (o : Ce), M[i]? = some a ∧ S[i]? = some o ∧ o ≠ Ce.dead then none else H a
theorem mask_some {S : Sto} {M : List Addr} {H : Hp} {a : Addr} {o : HO} : mask S M H a = some o ↔ (¬ ∃ (i : Nat) (c : Ce), M[i]? = some a ∧ S[i]? = some c ∧ c ≠ Ce.dead) ∧ H a = some o := by
  unfold mask
  split
  · rename_i h
    exact ⟨fun e => by (cases e), fun e => absurd h e.1⟩
  · rename_i h
    exact ⟨fun e => ⟨h, e⟩, fun e => e.2⟩
theorem mask_ex {S : Sto} {M : List Addr} {H : Hp} : Ex (mask S M H) H := fun a o h => (mask_some.mp h).2
/-- an exception: its class, its what -/
def RepX (I : Inf) (H : Hp) (c : Nat) (x : D) (cls : Value) (dd : Option Addr) : Prop := ∃ (C p : Addr) (v : V), I.X c = some C ∧ cls = .ref C ∧ dd = some p ∧ H p = some (.xd [(("what" : Str), v)]) ∧ Rep I H x v
theorem RepX.mono {I : Inf} {H H' : Hp} {c : Nat} {x : D} {cls : Value} {dd : Option Addr} (e : Ex H H') (r : RepX I H c x cls dd) : RepX I H' c x cls dd := by
  obtain ⟨C, p, v, a1, a2, a3, a4, a5⟩ := r
  exact ⟨C, p, v, a1, a2, a3, e _ _ a4, a5.mono e⟩
def RepW (I : Inf) (M : List Addr) (H : Hp) : W → V → Prop
  | .d x, v => Rep I H x v
  | .c i, v => ∃ a, M[i]? = some a ∧ v = .ref a
  | .e c x, v => ∃ a cls dd, I.ex = some (a, cls, dd) ∧ v = .ref a ∧ RepX I H c x cls dd
abbrev RepWs (I : Inf) (M : List Addr) (H : Hp) : List W → List V → Prop := Paired (RepW I M H)
def W.low (n : Nat) : W → Prop
  | .d _ => True
  | .c j => j < n
  | .e _ _ => True
def Ce.low (n : Nat) : Ce → Prop
  | .dead => True
  | .lst ws => ∀ w ∈ ws, w.low n
  | .ins _ ws => ∀ w ∈ ws, w.low n
  | .dK kvs => ∀ w ∈ kvs, w.2.low n
  | .dT kvs => ∀ w ∈ kvs, w.2.low n
def CeAt (I : Inf) (M : List Addr) (Hm : Hp) (ho : Option HO) : Ce → Prop
  | .dead => True
  | .lst ws => ∃ vs, ho = some (.lst vs) ∧ RepWs I M Hm ws vs
  | .ins c ws => ∃ (C dx : Addr) (vs : List V), I.G c = some C ∧ ho = some (.ins C dx ((I.fl c).zip vs)) ∧ vs.length ≤ (I.fl c).length ∧ RepWs I M Hm ws vs
  | .dK kvs => ∃ us, ho = some (.dK us) ∧ Paired (fun (p : Key × W) (q : Key × V) => p.1 = q.1 ∧ RepW I M Hm p.2 q.2) kvs us
  | .dT kvs => ∃ us, ho = some (.dT us) ∧ Paired (fun (p : List Key × W) (q : List Key × V) => p.1 = q.1 ∧ RepW I M Hm p.2 q.2) kvs us
structure Sim (I : Inf) (S : Sto) (M : List Addr) (H : Hp) : Prop where
  len : M.length = S.length
  nd : ∀ (i j : Nat) (a : Addr) (c d : Ce), M[i]? = some a → M[j]? = some a → S[i]? = some c → S[j]? = some d → c ≠ .dead → d ≠ .dead → i = j
  trk : ∀ a ∈ M, ∃ o, H a = some o
  cell : ∀ (i : Nat) (o : Ce) (a : Addr), S[i]? = some o → M[i]? = some a → CeAt I M (mask S M H) (H a) o
  low : ∀ (i : Nat) (o : Ce), S[i]? = some o → o.low i
structure Le (S : Sto) (M : List Addr) (H : Hp) (S' : Sto) (M' : List Addr) (H' : Hp) : Prop where
  pre : M <+: M'
  ex : Ex (mask S M H) (mask S' M' H')
theorem Le.refl {S : Sto} {M : List Addr} {H : Hp} : Le S M H S M H := ⟨List.prefix_refl _, Ex.refl _⟩
theorem Le.trans {S S1 S2 : Sto} {M M1 M2 : List Addr} {H H1 H2 : Hp} (a : Le S M H S1 M1 H1) (b : Le S1 M1 H1 S2 M2 H2) : Le S M H S2 M2 H2 := ⟨a.pre.trans b.pre, a.ex.trans b.ex⟩
theorem pre_get {M M' : List Addr} (h : M <+: M') {i : Nat} {a : Addr} (e : M[i]? = some a) : M'[i]? = some a := by
  obtain ⟨t, rfl⟩ := h
  rw [List.getElem?_append_left (List.getElem?_eq_some_iff.mp e).1]
  exact e
theorem RepW.up {I : Inf} {M M' : List Addr} {H H' : Hp} (p : M <+: M') (e : Ex H H') : ∀ {w : W} {v : V}, RepW I M H w v → RepW I M' H' w v
  | .d _, _, r => Rep.mono e r
  | .c _, _, ⟨a, h, q⟩ => ⟨a, pre_get p h, q⟩
  | .e _ _, _, ⟨a, cls, dd, h, q, r⟩ => ⟨a, cls, dd, h, q, r.mono e⟩
theorem RepW.mono {I : Inf} {S S' : Sto} {M M' : List Addr} {H H' : Hp} (l : Le S M H S' M' H') {w : W} {v : V} (r : RepW I M (mask S M H) w v) : RepW I M' (mask S' M' H') w v := r.up l.pre l.ex
theorem RepWs.mono {I : Inf} {S S' : Sto} {M M' : List Addr} {H H' : Hp} (l : Le S M H S' M' H') {w : List W} {v : List V} (r : RepWs I M (mask S M H) w v) : RepWs I M' (mask S' M' H') w v := Paired.mapP r fun _ _ q => q.mono l
theorem CeAt.up {I : Inf} {M M' : List Addr} {Hm Hm' : Hp} {ho : Option HO} {o : Ce} (p : M <+: M') (e : Ex Hm Hm') (r : CeAt I M Hm ho o) : CeAt I M' Hm' ho o := by
  cases o with
  | dead => trivial
  | lst ws => obtain ⟨vs, h, q⟩ := r; exact ⟨vs, h, Paired.mapP q fun _ _ z => z.up p e⟩
  | ins c ws => obtain ⟨C, dx, vs, g, h, l, q⟩ := r; exact ⟨C, dx, vs, g, h, l, Paired.mapP q fun _ _ z => z.up p e⟩
  | dK kvs => obtain ⟨us, h, q⟩ := r; exact ⟨us, h, Paired.mapP q fun _ _ z => ⟨z.1, z.2.up p e⟩⟩
  | dT kvs => obtain ⟨us, h, q⟩ := r; exact ⟨us, h, Paired.mapP q fun _ _ z => ⟨z.1, z.2.up p e⟩⟩
section
variable {I : Inf} {S : Sto} {M : List Addr} {H : Hp}
theorem Sim.at {i : Nat} {o : Ce} (s : Sim I S M H) (e : S[i]? = some o) : ∃ a, M[i]? = some a := by
  have h : i < M.length := by rw [s.len]; exact (List.getElem?_eq_some_iff.mp e).1
  exact ⟨M[i], List.getElem?_eq_getElem h⟩
theorem Sim.fresh {p : Addr} (s : Sim I S M H) (h : H p = none) : p ∉ M := fun m => by
  obtain ⟨o, e⟩ := s.trk p m
  rw [h] at e
  cases e
/-- a new thing, no cell -/
theorem Sim.new {p : Addr} {o : HO} (s : Sim I S M H) (h : H p = none) : Sim I S M (upd H p o) ∧ Le S M H S M (upd H p o) := by
  have np := s.fresh h
  have ex : Ex (mask S M H) (mask S M (upd H p o)) := fun a u e => by
    obtain ⟨n, e⟩ := mask_some.mp e
    exact mask_some.mpr ⟨n, by rw [upd_ne (ne_of_none e h)]; exact e⟩
  refine ⟨⟨s.len, s.nd, fun a m => ?_, fun i c a e1 e2 => ?_, s.low⟩, List.prefix_refl _, ex⟩
  · obtain ⟨u, e⟩ := s.trk a m
    exact ⟨u, by rw [upd_ne (ne_of_none e h)]; exact e⟩
  · have na : a ≠ p := fun q => np (q ▸ List.mem_of_getElem? e2)
    rw [upd_ne na]
    exact (s.cell i c a e1 e2).up (List.prefix_refl _) ex
theorem mask_new {p : Addr} {o : HO} (s : Sim I S M H) (h : H p = none) : mask S M (upd H p o) p = some o :=
  mask_some.mpr ⟨fun ⟨i, c, e, _⟩ => s.fresh h (List.mem_of_getElem? e), upd_same⟩
/-- the heap grows where nothing stood -/
theorem Sim.grow {H' : Hp} (s : Sim I S M H) (e : Ex H H') : Sim I S M H' ∧ Le S M H S M H' := by
  have ex : Ex (mask S M H) (mask S M H') := fun a u q => by
    obtain ⟨n, q⟩ := mask_some.mp q
    exact mask_some.mpr ⟨n, e a u q⟩
  refine ⟨⟨s.len, s.nd, fun a m => ?_, fun i c a e1 e2 => ?_, s.low⟩, List.prefix_refl _, ex⟩
  · obtain ⟨u, q⟩ := s.trk a m
    exact ⟨u, e _ _ q⟩
  · obtain ⟨u, q⟩ := s.trk a (List.mem_of_getElem? e2)
    have h := s.cell i c a e1 e2
    rw [q] at h
    rw [e _ _ q]
    exact h.up (List.prefix_refl _) ex
/-- a new cell -/
theorem Sim.newC {p : Addr} {o : HO} {c : Ce} (s : Sim I S M H) (h : H p = none) (lo : c.low S.length) (hc : CeAt I M (mask S M H) (some o) c) (hd : c ≠ .dead) : Sim I (S ++ [c]) (M ++ [p]) (upd H p o) ∧ Le S M H (S ++ [c]) (M ++ [p]) (upd H p o) := by
  have np := s.fresh h
  have pre : M <+: M ++ [p] := List.prefix_append _ _
  have ex : Ex (mask S M H) (mask (S ++ [c]) (M ++ [p]) (upd H p o)) := fun a u e => by
    obtain ⟨n, e⟩ := mask_some.mp e
    have na : a ≠ p := ne_of_none e h
    refine mask_some.mpr ⟨fun ⟨i, k, e1, e2, e3⟩ => ?_, by rw [upd_ne na]; exact e⟩
    by_cases hi : i < M.length
    · rw [List.getElem?_append_left hi] at e1
      rw [List.getElem?_append_left (by rw [← s.len]; exact hi)] at e2
      exact n ⟨i, k, e1, e2, e3⟩
    · rw [List.getElem?_append_right (Nat.le_of_not_lt hi)] at e1
      have : a = p := by
        have q := List.mem_of_getElem? e1
        simpa using q
      exact na this
  refine ⟨⟨by simp [s.len], fun i j a c1 c2 e1 e2 f1 f2 d1 d2 => ?_, fun a m => ?_, fun i k a e1 e2 => ?_, fun i k e => ?_⟩, pre, ex⟩
  · have lt : ∀ {q : Nat} {x : Addr}, (M ++ [p])[q]? = some x → q ≤ M.length := fun {q x} e => by
      have := (List.getElem?_eq_some_iff.mp e).1
      simp at this
      omega
    have at_ : ∀ {q : Nat}, q < M.length → (M ++ [p])[q]? = M[q]? ∧ (S ++ [c])[q]? = S[q]? := fun {q} h => ⟨List.getElem?_append_left h, List.getElem?_append_left (by rw [← s.len]; exact h)⟩
    have last : ∀ {q : Nat}, q = M.length → (M ++ [p])[q]? = some p := fun {q} h => by subst h; simp
    rcases Nat.lt_or_ge i M.length with hi | hi <;> rcases Nat.lt_or_ge j M.length with hj | hj
    · rw [(at_ hi).1] at e1
      rw [(at_ hj).1] at e2
      rw [(at_ hi).2] at f1
      rw [(at_ hj).2] at f2
      exact s.nd i j a c1 c2 e1 e2 f1 f2 d1 d2
    · rw [(at_ hi).1] at e1
      rw [last (Nat.le_antisymm (lt e2) hj)] at e2
      cases e2
      exact absurd (List.mem_of_getElem? e1) np
    · rw [(at_ hj).1] at e2
      rw [last (Nat.le_antisymm (lt e1) hi)] at e1
      cases e1
      exact absurd (List.mem_of_getElem? e2) np
    · have := lt e1
      have := lt e2
      omega
  · rcases List.mem_append.mp m with m | m
    · obtain ⟨u, e⟩ := s.trk a m
      exact ⟨u, by rw [upd_ne (ne_of_none e h)]; exact e⟩
    · have : a = p := by simpa using m
      exact ⟨o, by rw [this, upd_same]⟩
  · by_cases hi : i < S.length
    · rw [List.getElem?_append_left hi] at e1
      rw [List.getElem?_append_left (by rw [s.len]; exact hi)] at e2
      have na : a ≠ p := fun q => np (q ▸ List.mem_of_getElem? e2)
      rw [upd_ne na]
      exact (s.cell i k a e1 e2).up pre ex
    · have hi' : i = S.length := by
        have := (List.getElem?_eq_some_iff.mp e1).1
        simp at this
        omega
      subst hi'
      rw [List.getElem?_append_right (Nat.le_refl _)] at e1
      rw [List.getElem?_append_right (by rw [s.len]; exact Nat.le_refl _)] at e2
      simp [s.len] at e1 e2
      subst e1
      subst e2
      rw [upd_same]
      exact hc.up pre ex
  · by_cases hi : i < S.length
    · rw [List.getElem?_append_left hi] at e
      exact s.low i k e
    · have hi' : i = S.length := by
        have := (List.getElem?_eq_some_iff.mp e).1
        simp at this
        omega
      subst hi'
      rw [List.getElem?_append_right (Nat.le_refl _)] at e
      simp at e
      subst e
      exact lo
/-- a living cell is written -/
theorem Sim.write {i : Nat} {a : Addr} {o : HO} {c c' : Ce} (s : Sim I S M H) (e : S[i]? = some c) (ea : M[i]? = some a) (hd : c ≠ .dead) (hd' : c' ≠ .dead) (lo : c'.low i) (hc : CeAt I M (mask S M H) (some o) c') :
    Sim I (S.set i c') M (upd H a o) ∧ Le S M H (S.set i c') M (upd H a o) := by
  have hi : i < S.length := (List.getElem?_eq_some_iff.mp e).1
  have liv : ∀ b, (∃ (j : Nat) (k : Ce), M[j]? = some b ∧ (S.set i c')[j]? = some k ∧ k ≠ .dead) → ∃ (j : Nat) (k : Ce), M[j]? = some b ∧ S[j]? = some k ∧ k ≠ .dead := fun b ⟨j, k, e1, e2, e3⟩ => by
    by_cases q : j = i
    · subst q
      exact ⟨j, c, e1, e, hd⟩
    · rw [List.getElem?_set_ne (Ne.symm q)] at e2
      exact ⟨j, k, e1, e2, e3⟩
  have ex : Ex (mask S M H) (mask (S.set i c') M (upd H a o)) := fun b u q => by
    obtain ⟨n, q⟩ := mask_some.mp q
    have nb : b ≠ a := fun z => n ⟨i, c, z ▸ ea, e, hd⟩
    exact mask_some.mpr ⟨fun z => n (liv b z), by rw [upd_ne nb]; exact q⟩
  have old : ∀ {j : Nat} {k : Ce}, (S.set i c')[j]? = some k → k ≠ .dead → ∃ k', S[j]? = some k' ∧ k' ≠ .dead := fun {j k} q d => by
    by_cases z : j = i
    · subst z
      exact ⟨c, e, hd⟩
    · rw [List.getElem?_set_ne (Ne.symm z)] at q
      exact ⟨k, q, d⟩
  refine ⟨⟨by simp [s.len], fun x y b c1 c2 e1 e2 f1 f2 d1 d2 => ?_, fun b m => ?_, fun j k b e1 e2 => ?_, fun j k q => ?_⟩, List.prefix_refl _, ex⟩
  · obtain ⟨k1, g1, u1⟩ := old f1 d1
    obtain ⟨k2, g2, u2⟩ := old f2 d2
    exact s.nd x y b k1 k2 e1 e2 g1 g2 u1 u2
  · by_cases q : b = a
    · exact ⟨o, by rw [q, upd_same]⟩
    · obtain ⟨u, z⟩ := s.trk b m
      exact ⟨u, by rw [upd_ne q]; exact z⟩
  · by_cases q : j = i
    · subst q
      rw [ea] at e2
      cases e2
      rw [List.getElem?_set_self hi] at e1
      cases e1
      rw [upd_same]
      exact hc.up (List.prefix_refl _) ex
    · rw [List.getElem?_set_ne (Ne.symm q)] at e1
      by_cases hk : k = .dead
      · subst hk; trivial
      have nb : b ≠ a := fun z => q (s.nd j i b k c e2 (by rw [z]; exact ea) e1 e hk hd)
      rw [upd_ne nb]
      exact (s.cell j k b e1 e2).up (List.prefix_refl _) ex
  · by_cases z : j = i
    · subst z
      rw [List.getElem?_set_self hi] at q
      cases q
      exact lo
    · rw [List.getElem?_set_ne (Ne.symm z)] at q
      exact s.low j k q
/-- a cell dies: what stands there is data from now on -/
theorem Sim.kill {i : Nat} {c : Ce} (s : Sim I S M H) (e : S[i]? = some c) : Sim I (S.set i .dead) M H ∧ Le S M H (S.set i .dead) M H := by
  have hi : i < S.length := (List.getElem?_eq_some_iff.mp e).1
  have ex : Ex (mask S M H) (mask (S.set i .dead) M H) := fun b u q => by
    obtain ⟨n, q⟩ := mask_some.mp q
    refine mask_some.mpr ⟨fun ⟨j, k, e1, e2, e3⟩ => ?_, q⟩
    by_cases z : j = i
    · subst z
      rw [List.getElem?_set_self hi] at e2
      cases e2
      exact e3 rfl
    · rw [List.getElem?_set_ne (Ne.symm z)] at e2
      exact n ⟨j, k, e1, e2, e3⟩
  have old : ∀ {j : Nat} {k : Ce}, (S.set i .dead)[j]? = some k → k ≠ .dead → S[j]? = some k := fun {j k} q d => by
    by_cases z : j = i
    · subst z
      rw [List.getElem?_set_self hi] at q
      cases q
      exact absurd rfl d
    · rw [List.getElem?_set_ne (Ne.symm z)] at q
      exact q
  refine ⟨⟨by simp [s.len], fun x y b c1 c2 e1 e2 f1 f2 d1 d2 => s.nd x y b c1 c2 e1 e2 (old f1 d1) (old f2 d2) d1 d2, s.trk, fun j k b e1 e2 => ?_, fun j k q => ?_⟩, List.prefix_refl _, ex⟩
  · by_cases q : j = i
    · subst q
      rw [List.getElem?_set_self hi] at e1
      cases e1
      trivial
    · rw [List.getElem?_set_ne (Ne.symm q)] at e1
      exact (s.cell j k b e1 e2).up (List.prefix_refl _) ex
  · by_cases z : j = i
    · subst z
      rw [List.getElem?_set_self hi] at q
      cases q
      trivial
    · rw [List.getElem?_set_ne (Ne.symm z)] at q
      exact s.low j k q
theorem mask_dead {i : Nat} {a : Addr} {c : Ce} (s : Sim I S M H) (e : S[i]? = some c) (ea : M[i]? = some a) (hd : c ≠ .dead := by intro z; cases z) : mask (S.set i .dead) M H a = H a := by
  have hi : i < S.length := (List.getElem?_eq_some_iff.mp e).1
  unfold mask
  split
  · rename_i h
    obtain ⟨j, k, e1, e2, e3⟩ := h
    by_cases z : j = i
    · subst z
      rw [List.getElem?_set_self hi] at e2
      cases e2
      exact absurd rfl e3
    · rw [List.getElem?_set_ne (Ne.symm z)] at e2
      exact absurd (s.nd j i a k c e1 ea e2 e e3 hd) z
  · rfl
/-- a cell is numbered anew, as the last one -/
theorem Sim.move {i : Nat} {a : Addr} {c : Ce} (s : Sim I S M H) (e : S[i]? = some c) (ea : M[i]? = some a) (hd : c ≠ .dead) : Sim I (S.set i .dead ++ [c]) (M ++ [a]) H ∧ Le S M H (S.set i .dead ++ [c]) (M ++ [a]) H := by
  have hi : i < S.length := (List.getElem?_eq_some_iff.mp e).1
  have pre : M <+: M ++ [a] := List.prefix_append _ _
  have hl : (S.set i Ce.dead).length = M.length := by simp [s.len]
  -- a living one of the new store is one of the old, or the last
  have old : ∀ {j : Nat} {k : Ce} {b : Addr}, (S.set i .dead ++ [c])[j]? = some k → (M ++ [a])[j]? = some b → k ≠ .dead → (j < M.length ∧ j ≠ i ∧ S[j]? = some k ∧ M[j]? = some b) ∨ (j = M.length ∧ k = c ∧ b = a) := fun {j k b} q qb d => by
    rcases Nat.lt_or_ge j M.length with h | h
    · left
      rw [List.getElem?_append_left (by rw [hl]; exact h)] at q
      rw [List.getElem?_append_left h] at qb
      by_cases z : j = i
      · subst z
        rw [List.getElem?_set_self hi] at q
        cases q
        exact absurd rfl d
      · rw [List.getElem?_set_ne (Ne.symm z)] at q
        exact ⟨h, z, q, qb⟩
    · right
      have h2 : j = M.length := by
        have := (List.getElem?_eq_some_iff.mp qb).1
        simp at this
        omega
      subst h2
      rw [List.getElem?_append_right (by rw [hl]; exact Nat.le_refl _), hl, Nat.sub_self] at q
      rw [List.getElem?_append_right (Nat.le_refl _), Nat.sub_self] at qb
      cases q
      cases qb
      exact ⟨rfl, rfl, rfl⟩
  have liv : ∀ b, (∃ (j : Nat) (k : Ce), (M ++ [a])[j]? = some b ∧ (S.set i .dead ++ [c])[j]? = some k ∧ k ≠ .dead) ↔ ∃ (j : Nat) (k : Ce), M[j]? = some b ∧ S[j]? = some k ∧ k ≠ .dead := fun b => by
    constructor
    · rintro ⟨j, k, e1, e2, e3⟩
      rcases old e2 e1 e3 with ⟨_, _, h1, h2⟩ | ⟨_, _, rfl⟩
      · exact ⟨j, k, h2, h1, e3⟩
      · exact ⟨i, c, ea, e, hd⟩
    · rintro ⟨j, k, e1, e2, e3⟩
      by_cases z : j = i
      · subst z
        rw [ea] at e1
        cases e1
        refine ⟨M.length, c, by simp, ?_, hd⟩
        rw [List.getElem?_append_right (by rw [hl]; exact Nat.le_refl _), hl, Nat.sub_self]
        rfl
      · have hj : j < M.length := (List.getElem?_eq_some_iff.mp e1).1
        refine ⟨j, k, by rw [List.getElem?_append_left hj]; exact e1, ?_, e3⟩
        rw [List.getElem?_append_left (by rw [hl]; exact hj), List.getElem?_set_ne (Ne.symm z)]
        exact e2
  have em : mask (S.set i .dead ++ [c]) (M ++ [a]) H = mask S M H := by
    funext b
    unfold mask
    by_cases h : ∃ (j : Nat) (k : Ce), M[j]? = some b ∧ S[j]? = some k ∧ k ≠ .dead
    · rw [if_pos h, if_pos ((liv b).mpr h)]
    · rw [if_neg h, if_neg fun z => h ((liv b).mp z)]
  refine ⟨⟨by simp [s.len], fun x y b c1 c2 e1 e2 f1 f2 d1 d2 => ?_, fun b m => ?_, fun j k b e1 e2 => ?_, fun j k q => ?_⟩, pre, by rw [em]; exact Ex.refl _⟩
  · rcases old f1 e1 d1 with ⟨_, n1, g1, h1⟩ | ⟨z1, _, b1⟩ <;> rcases old f2 e2 d2 with ⟨_, n2, g2, h2⟩ | ⟨z2, _, b2⟩
    · exact s.nd x y b c1 c2 h1 h2 g1 g2 d1 d2
    · subst b2
      exact absurd (s.nd x i b c1 c h1 ea g1 e d1 hd) n1
    · subst b1
      exact absurd (s.nd y i b c2 c h2 ea g2 e d2 hd) n2
    · rw [z1, z2]
  · rcases List.mem_append.mp m with m | m
    · exact s.trk b m
    · have : b = a := by simpa using m
      subst this
      exact s.trk b (List.mem_of_getElem? ea)
  · by_cases hk : k = .dead
    · subst hk; trivial
    · rw [em]
      rcases old e1 e2 hk with ⟨_, _, h1, h2⟩ | ⟨_, rfl, rfl⟩
      · exact (s.cell j k b h1 h2).up pre (Ex.refl _)
      · exact (s.cell i k b e ea).up pre (Ex.refl _)
  · by_cases hk : k = .dead
    · subst hk; trivial
    · obtain ⟨b, eb⟩ : ∃ b, (M ++ [a])[j]? = some b := by
        have h1 := (List.getElem?_eq_some_iff.mp q).1
        have h2 : j < (M ++ [a]).length := by simp at h1 ⊢; rw [s.len]; exact h1
        exact ⟨_, List.getElem?_eq_getElem h2⟩
      rcases old q eb hk with ⟨_, _, h1, _⟩ | ⟨rfl, rfl, _⟩
      · exact s.low j k h1
      · have := s.low i k e
        have le : i ≤ M.length := by rw [s.len]; exact Nat.le_of_lt hi
        have up : ∀ {w : W}, w.low i → w.low M.length := fun {w} h => by
          cases w with
          | d x => trivial
          | c j => exact Nat.lt_of_lt_of_le h le
          | e c x => trivial
        cases k with
        | dead => trivial
        | lst ws => exact fun w m => up (this w m)
        | ins c ws => exact fun w m => up (this w m)
        | dK ws => exact fun w m => up (this w m)
        | dT ws => exact fun w m => up (this w m)
/-- the cells behind the first n are forgotten -/
theorem Sim.cut {n : Nat} (s : Sim I S M H) : Sim I (S.take n) (M.take n) H ∧ Ex (mask S M H) (mask (S.take n) (M.take n) H) := by
  have tk : ∀ {α : Type} {l : List α} {i : Nat} {x : α}, (l.take n)[i]? = some x → l[i]? = some x ∧ i < n := fun {α l i x} e => by
    rw [List.getElem?_take] at e
    split at e
    · exact ⟨e, by assumption⟩
    · cases e
  have ex : Ex (mask S M H) (mask (S.take n) (M.take n) H) := fun b u q => by
    obtain ⟨k, q⟩ := mask_some.mp q
    exact mask_some.mpr ⟨fun ⟨j, z, e1, e2, e3⟩ => k ⟨j, z, (tk e1).1, (tk e2).1, e3⟩, q⟩
  have upl : ∀ {i : Nat} {w : W} {v : V}, i ≤ n → w.low i → RepW I M (mask S M H) w v → RepW I (M.take n) (mask (S.take n) (M.take n) H) w v := fun {i w v} hi lo r => by
    cases w with
    | d x => exact Rep.mono ex r
    | c j =>
      obtain ⟨a, e, q⟩ := r
      refine ⟨a, ?_, q⟩
      have lo' : j < i := lo
      rw [List.getElem?_take, if_pos (by omega)]
      exact e
    | e c x =>
      obtain ⟨a, cls, dd, e, q, r⟩ := r
      exact ⟨a, cls, dd, e, q, r.mono ex⟩
  have uplP : ∀ {i : Nat} {ws : List W} {vs : List V}, i ≤ n → (∀ w ∈ ws, w.low i) → RepWs I M (mask S M H) ws vs → RepWs I (M.take n) (mask (S.take n) (M.take n) H) ws vs := fun {i ws vs} hi lo r => by
    induction r with
    | nil => exact .nil
    | cons r t ih => exact .cons (upl hi (lo _ (by simp)) r) (ih fun w m => lo w (by simp [m]))
  have uplK : ∀ {κ : Type} {i : Nat} {ws : List (κ × W)} {vs : List (κ × V)}, i ≤ n → (∀ w ∈ ws, w.2.low i) → Paired (fun (p : κ × W) (q : κ × V) => p.1 = q.1 ∧ RepW I M (mask S M H) p.2 q.2) ws vs →
      Paired (fun (p : κ × W) (q : κ × V) => p.1 = q.1 ∧ RepW I (M.take n) (mask (S.take n) (M.take n) H) p.2 q.2) ws vs := fun {κ i ws vs} hi lo r => by
    induction r with
    | nil => exact .nil
    | cons r t ih => exact .cons ⟨r.1, upl hi (lo _ (by simp)) r.2⟩ (ih fun w m => lo w (by simp [m]))
  refine ⟨⟨by simp [s.len], fun x y b c1 c2 e1 e2 f1 f2 d1 d2 => s.nd x y b c1 c2 (tk e1).1 (tk e2).1 (tk f1).1 (tk f2).1 d1 d2, fun a m => s.trk a (List.mem_of_mem_take m), fun i c a e1 e2 => ?_, fun i c e => s.low i c (tk e).1⟩, ex⟩
  have h := s.cell i c a (tk e1).1 (tk e2).1
  have lo := s.low i c (tk e1).1
  have hi : i ≤ n := Nat.le_of_lt (tk e1).2
  cases c with
  | dead => trivial
  | lst ws => obtain ⟨vs, h, q⟩ := h; exact ⟨vs, h, uplP hi lo q⟩
  | ins c ws => obtain ⟨C, dx, vs, g, h, l, q⟩ := h; exact ⟨C, dx, vs, g, h, l, uplP hi lo q⟩
  | dK kvs => obtain ⟨us, h, q⟩ := h; exact ⟨us, h, uplK hi lo q⟩
  | dT kvs => obtain ⟨us, h, q⟩ := h; exact ⟨us, h, uplK hi lo q⟩
end
end Py

/-! Py2: how code is read; the context; plain expressions. -/
namespace Py
open PySem PySem.Spec PyProof.Rows L2

/-- what the class at C of an exception must have; D: the class with the __init__ -/
structure IniC (K : PySem.W.Frag) (C D : Addr) : Prop where
  T : OexC K C
  sup : PySem.W.ks_superIn K C D "__init__" = some (some (.builtin "ValueError.__init__"))
  ve : PySem.W.subIn K (.ref C) (.type "ValueError") = some true
  mro : PySem.W.mroIn K C (.ref D) = some true
  wh : PySem.W.findIn K (.ref C) "what" = some none
  th : PySem.W.nsIn K cStatics "thirdparty.any" = some none
/-- C.__init__(self, what) -/
def spI (K : PySem.W.Frag) (D : Addr) : Sp := fun vs H Q _ => ∃ (a C : Addr) (v : V), vs = [.ref a, v] ∧ H a = some (exo a C none) ∧ IniC K C D ∧ ∀ dx, H dx = none → dx ≠ a → Q .non (upd (upd H dx (exd dx [(("what" : Str), v)])) a (exo a C (some dx)))
section
variable {P : Program} {wd : World} {K : PySem.W.Frag} {mg : Str → Option Value} {base : Heap}
theorem ini_fn {f c cc D : Addr} {qual : Str} {params : Arguments} {scope : Scope} {dV kV doc pm ct oc : Value} {an od : Option Addr} {osl : Array (Option Value)} {p0 p1 p2 p3 p4 p5 q0 q1 q2 q3 : Pos} {ccl cl : Value} {cdd cld : Option Addr} {ccs csl : Array (Option Value)} {vs0 : Array Value} {file : Str} {tf : Tok} {cdD : ClassData} {ar : Arg}
    (hf : K.lookup f = some ⟨oc, od, .func (PySem.W.ksFn "__init__" qual params [.Expr (.Call (.Attribute (.Call (.Name "super" p0) [] [] p1) "__init__" p2) [.Name "what" p3] [] p4) p5, .Assign [.Attribute (.Name "self" q0) "what" q1] (.Name "what" q2) q3] scope dV kV doc pm an (.ref c) ct cc), osl⟩)
    (hcd : PySem.W.codeIn K (.ref c) qual = true) (S : NdefX.NScope ["self", "what", "__class__"] ["self", "what"] ["__class__"] scope) (hks : scope.names.lookup ("super" : Str) = some .globalImplicit)
    (hcode : K.lookup c = some ⟨ccl, cdd, .fields vs0, ccs⟩) (hvs : vs0[2]? = some (.str file tf)) (hfile : ((P.main.file : Str) == file) = true) (hcell : K.lookup cc = some ⟨cl, cld, .cell (some (.ref D)), csl⟩) (hD : PySem.W.clsIn K D = some cdD)
    (hp : (params.posonlyargs ++ params.args).head? = some ar) (har : ar.arg = ("self" : Str)) (hsuper : mg "super" = none) (htop : (P.main.scope.names.lookup ("super" : Str)).isSome = false)
    (hin : ∀ L, interactive (PySem.W.ksEnv qual scope L f (.ref c) cc) = false) {pl : PySem.Env → Sem Bool} (hev : ∀ env, eval (.Call (.Attribute (.Call (.Name "super" p0) [] [] p1) "__init__" p2) [.Name "what" p3] [] p4) env = (do
      let ov ← attributeBase (.Call (.Name "super" p0) [] [] p1) "__init__" env (eval (.Call (.Name "super" p0) [] [] p1) env)
      standAt p2.atName
      let (f, first) ← holding [ov] (getMethod ov "__init__" (pl env))
      callWith p4 f first (backTo p4 (starEach [.Name "what" p3] env)) []))
    (hsw : ∀ env, swapsWith (.Call (.Attribute (.Call (.Name "super" p0) [] [] p1) "__init__" p2) [.Name "what" p3] [] p4) none p5.line env = pure false) (hsw2 : ∀ env, swapsWith (.Name "what" q2) (some (.Attribute (.Name "self" q0) "what" q1)) q3.line env = pure false) :
    FnOk P wd K mg base (L2.CX P wd) 0 f (PySem.W.ksFn "__init__" qual params [.Expr (.Call (.Attribute (.Call (.Name "super" p0) [] [] p1) "__init__" p2) [.Name "what" p3] [] p4) p5, .Assign [.Attribute (.Name "self" q0) "what" q1] (.Name "what" q2) q3] scope dV kV doc pm an (.ref c) ct cc) ["self", "what"] (spI K D) := by
  refine ⟨fun vs H Q E ⟨a, C, v, e, _⟩ => by rw [e]; rfl, fun A outer s H args us vs Q E hr e0 hb r hsp => ?_⟩
  obtain ⟨a, C, v, rfl, ea, IC, hq⟩ := hsp
  obtain ⟨u0, ur, rfl, r0, rr⟩ : ∃ u0 ur, us = u0 :: ur ∧ RelV (.ref a) u0 ∧ Vals [v] ur := by
    cases r with
    | cons r0 rr => exact ⟨_, _, rfl, r0, rr⟩
  obtain ⟨u1, rfl, r1⟩ := vals1 rr
  obtain rfl : u0 = Value.ref a := r0
  have KX : K.In s.heap := e0.mod.kin.keeps fun b o e => (e0.bs b o e).1
  have lim : s.heap.NoLimit := e0.mod.nolimit.keeps fun b o e => (e0.bs b o e).1
  obtain ⟨mb, hmb, hmb2⟩ := e0.mod.blt
  obtain ⟨nm, qn, NN, bs, bm, sn, sub, ab, col, dd, k0, k1, k2, k3, k5, hC, hbm⟩ := IC.T.cls
  refine PySem.ks_codeAny_call_defAt (binds := [(("self" : Str), Value.ref a), (("what" : Str), u1)]) hr.depth (KX _ _ hf) rfl lim (PySem.W.codeRec_of KX hcd) rfl hb S.nocell (fun x hx => ?_) (fun h1 hns kp => ?_) S.co S.gen S.kind
  · refine S.par x.1 ?_
    simp only [List.mem_cons, List.not_mem_nil, or_false] at hx
    rcases hx with rfl | rfl <;> simp
  let F : NdefX.NF := ⟨"__init__", qual, params, [.Expr (.Call (.Attribute (.Call (.Name "super" p0) [] [] p1) "__init__" p2) [.Name "what" p3] [] p4) p5, .Assign [.Attribute (.Name "self" q0) "what" q1] (.Name "what" q2) q3], scope, [("__class__", cc)], c⟩
  have CA : NdefX.CellsAt F.cl ["__class__"] [none] s.heap H := by
    refine ⟨rfl, fun y c0 e => ?_, fun x y c0 e1 e2 => ?_, fun i y e => ?_⟩
    · have e : ([("__class__", cc)] : List (Str × Addr)).lookup y = some c0 := e
      rw [List.lookup_cons] at e
      split at e
      · cases e
        exact ⟨(e0.bs _ _ (e0.mod.kin _ _ hcell)).2, some (.ref D), _, KX _ _ hcell, rfl⟩
      · cases e
    · have e1 : ([("__class__", cc)] : List (Str × Addr)).lookup x = some c0 := e1
      have e2 : ([("__class__", cc)] : List (Str × Addr)).lookup y = some c0 := e2
      rw [List.lookup_cons] at e1 e2
      split at e1
      · rename_i h1
        split at e2
        · rename_i h2
          rw [beq_iff_eq] at h1 h2
          rw [h1, h2]
        · cases e2
      · cases e1
    · match i, e with
      | 0, e =>
        cases e
        exact ⟨cc, rfl, fun v z => by cases z⟩
  have I0 := NdefX.inv_startN (CX := L2.CX P wd) (tk := s.toks + 2) (F := F) (f := f) (E := E) S hr.hd e0 rfl (.cons (show RelV (.ref a) (.ref a) from rfl) (.cons r1 .nil)) CA hns kp
  have hself : (List.reverse [(("self" : Str), Value.ref a), (("what" : Str), u1)]).lookup ("self" : Str) = some (.ref a) := by
    simp [List.lookup, show (("self" : Str) == ("what" : Str)) = false by decide +kernel]
  have hwhat : (List.reverse [(("self" : Str), Value.ref a), (("what" : Str), u1)]).lookup ("what" : Str) = some u1 := by
    simp [List.lookup]
  have KX1 : K.In h1 := KX.keeps kp
  obtain ⟨t1, hx⟩ := exo_at I0.hok ea
  obtain ⟨oD, hD1, hD2⟩ : ∃ oD, h1.get? D = some oD ∧ oD.data = .cls cdD := by
    unfold PySem.W.clsIn at hD
    split at hD
    · rename_i c d cd' sl ho
      cases hD
      exact ⟨_, KX1 _ _ ho, rfl⟩
    · cases hD
  have hcl : PySem.W.clsIn K C = some { name := nm, bases := bs, mro := .ref C :: bm, ns := NN, qualname := qn, hasDict := true, slotNames := sn, subclasses := sub, abstract := ab, collection := col, hasDel := false } := by unfold PySem.W.clsIn; rw [hC] <;> rfl
  show _root_.PySem.wpAt (model P wd) (A.deeper (NdefX.envF F f s.heap.objs.size)) (.func F.body (NdefX.envF F f s.heap.objs.size)) (execs F.body (NdefX.envF F f s.heap.objs.size)) _ _ _
  refine ks_wpAt_execs_cons (ks_wpAt_Expr_any (ks_wpAt_MethodCall (pl := pl _) (ks_wpAt_mono (ks_wpAt_super_base (Q := fun ov s1 => ov = .ref h1.objs.size ∧ ∃ h2 : Heap, h2.get? h1.objs.size = some (PySem.W.ks_superObj D a C) ∧ (∀ y o, h1.get? y = some o → h2.get? y = some o) ∧ s1 = (⟨h2, s.gens, s.drawn, s.toks + 2, s.os⟩ : Shared)) hks (S.frk _ (by simp)) rfl rfl (KX1 _ _ hf) rfl hp rfl (KX1 _ _ hcode) rfl hvs hfile htop ?_) (fun ov s1 hz => ?_) fun _ _ z => z) (hev _)) (hin _) (hsw _))
  · refine PySem.W.ks_loadName_global S.kind hks (Calls.loadGlobal_builtin (mg := mg) (mb := mb) ?_ hsuper ?_ (v := .type "super") ?_ ⟨rfl, ?_⟩)
    · exact e0.mod.glob.keeps fun b o e => kp _ _ (e0.bs b o e).1
    · exact hmb.keeps fun b o e => kp _ _ (e0.bs b o e).1
    · rw [hmb2 _ (by decide +kernel)]
      decide +kernel
    refine wpAny_loadName_free S.kind (S.frk _ (by simp)) rfl ⟨_, KX1 _ _ hcell, rfl⟩ ?_
    rw [har]
    refine wpAny_loadName_local S.kind (S.par _ (by simp)) hns hself ?_
    refine ks_wpAny_isType_cls hD1 hD2 ⟨rfl, ?_⟩
    exact ks_wpAny_call_super hD1 hD2 hx rfl (fun c z => by cases z) (PySem.W.looks_mroIn KX1 IC.mro) fun h' e k => ⟨rfl, h', e, k, rfl⟩
  obtain ⟨rfl, h2, e2, k2, rfl⟩ := hz
  have KX2 : K.In h2 := KX1.keeps k2
  have hx2 := k2 _ _ hx
  have J2 : PySem.W.InstAt h2 a { cls := .ref C, dict := none, data := .fields #[.ref t1, .none, .none, .none, .bool false, .none] } C none := ⟨hx2, rfl, rfl, trivial⟩
  have hsup := IC.sup
  unfold PySem.W.ks_superIn at hsup
  rw [hcl] at hsup
  refine PySem.W.kxs_getMethod PySem.W.kxs_ValueError (so := h1.objs.size) (D := D) (x := a) (C := C) (l₀ := .ref C :: bm) e2 (PySem.W.looks_opaque KX2 IC.th) (fun A Q E s k q => wpAny_bind ((PySem.W.looks_clsIn KX2 hcl) A _ E s k (wpAny_pure q))) rfl KX2 hsup (J2.type.andThen (PySem.W.looks_subIn KX2 IC.ve)) (PySem.W.ks_ne KX2 J2 hcl) (by decide +kernel) ?_
  have k3 : ∀ b o, h1.get? b = some o → (h2.push (PySem.W.kxs_mw "ValueError.__init__" a)).get? b = some o := fun b o e => Heap.get?_push_of_some _ (k2 b o e)
  have hu : (h2.push (PySem.W.kxs_mw "ValueError.__init__" a)).get? h2.objs.size = some (PySem.W.kxs_mw "ValueError.__init__" a) := Heap.get?_push_size _ rfl
  generalize h2.push (PySem.W.kxs_mw "ValueError.__init__" a) = h3 at k3 hu ⊢
  have KX3 : K.In h3 := KX1.keeps k3
  show wpAny _ _ (callWith p4 (.ref h2.objs.size) [] (backTo p4 ((false, eval (.Name "what" p3) (NdefX.envF F f s.heap.objs.size)) :: starEach [] (NdefX.envF F f s.heap.objs.size))) []) _ _ _
  refine PySem.W.kxs_callWith (i := "ValueError.__init__") (x := a) rfl (Calls.evalArgs_plain (Calls.spliced_cons (wpAny_Name (wpAny_loadName_local S.kind (S.par "what" (by simp)) (hns.keeps k3) hwhat (Calls.spliced_nil ⟨hu, ?_⟩)) (by decide +kernel))))
  have hx3 := k3 _ _ hx
  refine wpAny_call (codeAny_of_tree ?_)
  show wpAny _ (Around.in1 _) (callAny (.ref h2.objs.size) ⟨[u1], []⟩) _ _ _
  simp only [callAny]
  refine wpAny_bind (wpAny_load hu ?_)
  simp only [PySem.W.kxs_mw, show (Value.type "method-wrapper" == Value.type "method" || Value.type "method-wrapper" == Value.type "builtin_function_or_method" || Value.type "method-wrapper" == Value.type "method-wrapper") = true by decide, if_true]
  refine PySem.W.KFB.if_so (by decide) ?_
  refine wpAny_bind (PySem.W.check_bound_init PySem.F.excBase_ValueError.toExcCallFacts (KX3 _ _ hC) hx3 rfl ?_)
  refine wpAny_bind (wpAny_pure (wpAny_pure ?_))
  refine ⟨plainId_quiet PySem.F.excBase_ValueError.init.plain _, codeAny_builtin PySem.F.excBase_ValueError.initEntry ?_⟩
  refine PySem.W.exc_init_tree (cls := .ref C) (t0 := t1) (dv := none) (c2 := .none) (c3 := .none) (b4 := .bool false) hx3 (show 1 ≤ sizeLine by decide) fun h4 k4 e4 t4 => ?_
  have I4 := I0.write (t' := s.toks + 2 + 1) (h' := h4) (x := a) (e := a) (o := exo a C none) (by rw [ea]; exact True.intro) (.inl rfl) (fun b u hb hbu => k4 b u hb (k3 b u hbu)) ⟨_, e4⟩ (exo_ok e4)
  have eu : upd H a (exo a C none) = H := by
    funext b
    by_cases hb : b = a
    · rw [hb, upd_same, ea]
    · rw [upd_ne hb]
  rw [eu] at I4
  have P2 := (pss_cons (ps_ost (X := NdefX.ncx (L2.CX P wd) P wd K mg base ["self", "what", "__class__"] F f A outer s H E) (f := "what") (p' := q1) (pos := q3) (pv 0 (pos := q0) (hv := .inl (S.par "self" (by simp)))) (pv 1 (pos := q2) (hv := .inl (S.par "what" (by simp)))) (hsw2 _)) pss_nil).run [] _ _ H { nx := fun _ H' => Q .non H', rt := Q } I4
    ⟨v, rfl, .ref a, rfl, a, C, rfl, IC.T, IC.wh, .inl ⟨ea, hq⟩⟩
  refine wpAt_of_wpAny (wpAny_mono P2 (fun fl s' hs => ?_) fun e s' hs => hs)
  have fin : ∀ {σ' : L2.St} {H' : Hp} {v : V} {u : Value}, Inv (NdefX.ncx (L2.CX P wd) P wd K mg base ["self", "what", "__class__"] F f A outer s H E) [] σ' H' s' → L2.RelV v u → Q v H' → CE outer P wd H s Q u s' :=
    fun {σ' H' v u} J rv q => ⟨v, H', J.os, J.bare, J.base, J.hok, rv, q⟩
  cases fl with
  | ret u =>
    obtain ⟨v, σ', H', J, rv, q⟩ := hs
    exact fin J rv q
  | next =>
    obtain ⟨σ', H', J, q⟩ := hs
    exact fin (v := V.non) (u := Value.none) J rfl q
  | brk =>
    obtain ⟨_, _, _, q⟩ := hs
    exact False.elim q
  | cont =>
    obtain ⟨_, _, _, q⟩ := hs
    exact False.elim q
end
/-- an exception's class -/
structure XcF (P : Program) (wd : World) (K : PySem.W.Frag) (mg : Str → Option Value) (base : Heap) (C : Addr) : Prop where
  ini : ∃ (D fI : Addr) (fd : FuncData), IniC K C D ∧ PySem.W.findIn K (.ref C) "__init__" = some (some (.ref fI)) ∧ PySem.W.typeIn K (.ref fI) = some (.type "function") ∧ FnOk P wd K mg base (L2.CX P wd) 0 fI fd ["self", "what"] (spI K D) ∧ Binds K fd ["self", "what"] [] ∧ Binds K fd ["self", "what"] [.none]
  E : ExcC K C
structure Slots (I : Inf) (M : List Addr) (H : Hp) (env : Env) (σ : L2.St) : Prop where
  len : env.length = σ.length
  get : ∀ (i : Nat) (w : W), env[i]? = some (some w) → ∃ v, σ[i]? = some (some v) ∧ RepW I M H w v
theorem Slots.mono {I : Inf} {S S' : Sto} {M M' : List Addr} {H H' : Hp} {env : Env} {σ : L2.St} (s : Slots I M (mask S M H) env σ) (l : Le S M H S' M' H') : Slots I M' (mask S' M' H') env σ :=
  ⟨s.len, fun i w e => let ⟨v, a, b⟩ := s.get i w e; ⟨v, a, b.mono l⟩⟩
theorem Slots.set {I : Inf} {M : List Addr} {H : Hp} {env : Env} {σ : L2.St} {i : Nat} {w : W} {v : V} (s : Slots I M H env σ) (r : RepW I M H w v) : Slots I M H (env.set i (some w)) (σ.set i (some v)) := by
  refine ⟨by simp [s.len], fun j u e => ?_⟩
  rw [List.getElem?_set] at e
  rw [List.getElem?_set]
  by_cases h : i = j
  · rw [if_pos h] at e ⊢
    by_cases hi : i < env.length
    · rw [if_pos hi] at e
      have q : w = u := by simpa using e
      rw [if_pos (by rw [← s.len]; exact hi)]
      exact ⟨v, rfl, q ▸ r⟩
    · rw [if_neg hi] at e
      cases e
  · rw [if_neg h] at e ⊢
    exact s.get j u e
theorem Slots.unset {I : Inf} {M : List Addr} {H : Hp} {env : Env} {σ : L2.St} {i : Nat} (s : Slots I M H env σ) : Slots I M H (env.set i none) σ := by
  refine ⟨by simp [s.len], fun j u e => ?_⟩
  rw [List.getElem?_set] at e
  by_cases h : i = j
  · rw [if_pos h] at e
    split at e
    · simp at e
    · cases e
  · rw [if_neg h] at e
    exact s.get j u e
/-- what an ending asks -/
def EndR {α β : Type} (I : Inf) (S : Sto) (M : List Addr) (H : Hp) (rel : List Addr → Hp → α → β → Prop) (Q : β → Hp → Prop) (E : XK) : R α → Prop
  | .ok a S' => ∀ (b : β) (H' : Hp) (M' : List Addr), Le S M H S' M' H' → Sim I S' M' H' → rel M' (mask S' M' H') a b → Q b H'
  | .exc c x S' => ∀ (cls : Value) (dd : Option Addr) (H' : Hp) (M' : List Addr), Le S M H S' M' H' → Sim I S' M' H' → RepX I (mask S' M' H') c x cls dd → E cls dd H'
  | .bad => False
section
variable {α β γ δ : Type} {I : Inf} {S S1 : Sto} {M M1 : List Addr} {H H1 : Hp} {rel : List Addr → Hp → α → β → Prop} {rel1 : List Addr → Hp → γ → δ → Prop} {Q Q' : β → Hp → Prop} {E E' : XK}
theorem EndR.imp {r : R α} (h : EndR I S M H rel Q E r) (hQ : ∀ b H', Q b H' → Q' b H') : EndR I S M H rel Q' E r := by
  cases r with
  | ok a S' => exact fun b H' M' l s q => hQ _ _ (h b H' M' l s q)
  | exc c x S' => exact h
  | bad => exact h
theorem EndR.up {r : R α} (h : EndR I S M H rel Q E r) (l : Le S M H S1 M1 H1) : EndR I S1 M1 H1 rel Q E r := by
  cases r with
  | ok a S' => exact fun b H' M' l' s q => h b H' M' (l.trans l') s q
  | exc c x S' => exact fun cls dd H' M' l' s q => h cls dd H' M' (l.trans l') s q
  | bad => exact h
theorem EndR.bind {r : R γ} {f : γ → Sto → R α} (h : EndR I S M H rel Q E (r.bind f)) :
    EndR I S M H rel1 (fun b H1 => ∃ (a : γ) (S1 : Sto) (M1 : List Addr), Le S M H S1 M1 H1 ∧ Sim I S1 M1 H1 ∧ rel1 M1 (mask S1 M1 H1) a b ∧ EndR I S1 M1 H1 rel Q E (f a S1)) E r := by
  cases r with
  | ok a S' => exact fun b H' M' l s q => ⟨a, S', M', l, s, q, EndR.up (r := f a S') h l⟩
  | exc c x S' => exact h
  | bad => exact h
/-- an ending without change -/
theorem EndR.here {a : α} {b : β} (h : EndR I S M H rel Q E (.ok a S)) (s : Sim I S M H) (r : rel M (mask S M H) a b) : Q b H := h b H M Le.refl s r
end
def rdE (I : Inf) (w : WX) (de : DE) : TE := fun σ H Q => ∃ (env : Env) (S : Sto) (M : List Addr), Sim I S M H ∧ Slots I M (mask S M H) env σ ∧ EndR I S M H (RepW I) Q (fun cls dd H' => w cls dd σ H') (de env S)
def rdT (I : Inf) (w : WX) (dt : DT) : TT := fun σ H Q => ∃ (env : Env) (S : Sto) (M : List Addr), Sim I S M H ∧ Slots I M (mask S M H) env σ ∧ EndR I S M H (fun _ _ a b => a = b) Q (fun cls dd H' => w cls dd σ H') (dt env S)
def rdA (I : Inf) (w : WX) (da : DA) : TA := fun σ H Q => ∃ (env : Env) (S : Sto) (M : List Addr), Sim I S M H ∧ Slots I M (mask S M H) env σ ∧ EndR I S M H (RepWs I) Q (fun cls dd H' => w cls dd σ H') (da env S)
def EndS (I : Inf) (S : Sto) (M : List Addr) (H : Hp) (D : Ends) (w : WX) : RS → Prop
  | .nx e S' => ∀ (σ' : L2.St) (H' : Hp) (M' : List Addr), Le S M H S' M' H' → Sim I S' M' H' → Slots I M' (mask S' M' H') e σ' → D.nx σ' H'
  | .bk e S' => ∀ (σ' : L2.St) (H' : Hp) (M' : List Addr), Le S M H S' M' H' → Sim I S' M' H' → Slots I M' (mask S' M' H') e σ' → D.bk σ' H'
  | .ct e S' => ∀ (σ' : L2.St) (H' : Hp) (M' : List Addr), Le S M H S' M' H' → Sim I S' M' H' → Slots I M' (mask S' M' H') e σ' → D.ct σ' H'
  | .rt a S' => ∀ (v : V) (H' : Hp) (M' : List Addr), Le S M H S' M' H' → Sim I S' M' H' → RepW I M' (mask S' M' H') a v → D.rt v H'
  | .exc c x e S' => ∀ (cls : Value) (dd : Option Addr) (σ' : L2.St) (H' : Hp) (M' : List Addr), Le S M H S' M' H' → Sim I S' M' H' → Slots I M' (mask S' M' H') e σ' → RepX I (mask S' M' H') c x cls dd → w cls dd σ' H'
  | .bad => False
def rdS (I : Inf) (w : WX) (ds : DS) : TS := fun D σ H => ∃ (env : Env) (S : Sto) (M : List Addr), Sim I S M H ∧ Slots I M (mask S M H) env σ ∧ EndS I S M H D w (ds env S)
theorem EndS.up {I : Inf} {S S1 : Sto} {M M1 : List Addr} {H H1 : Hp} {D : Ends} {w : WX} {r : RS} (h : EndS I S M H D w r) (l : Le S M H S1 M1 H1) : EndS I S1 M1 H1 D w r := by
  cases r with
  | nx e S' => exact fun σ' H' M' l' => h σ' H' M' (l.trans l')
  | bk e S' => exact fun σ' H' M' l' => h σ' H' M' (l.trans l')
  | ct e S' => exact fun σ' H' M' l' => h σ' H' M' (l.trans l')
  | rt e S' => exact fun σ' H' M' l' => h σ' H' M' (l.trans l')
  | exc c x e S' => exact fun cls dd σ' H' M' l' => h cls dd σ' H' M' (l.trans l')
  | bad => exact h

theorem PE_imp {X : Cx} {e : Expr} {t t' : TE} (h : PE X e t) (i : ∀ σ H Q, t' σ H Q → t σ H Q) : PE X e t' := ⟨fun pins s σ H Q I q => h.run pins s σ H Q I (i σ H Q q)⟩
theorem PT_imp {X : Cx} {e : Expr} {t t' : TT} (h : PT X e t) (i : ∀ σ H Q, t' σ H Q → t σ H Q) : PT X e t' := ⟨fun pins s σ H Q I q => h.run pins s σ H Q I (i σ H Q q)⟩
theorem PW_imp {X : Cx} {e : Expr} {t t' : TT} (h : PW X e t) (i : ∀ σ H Q, t' σ H Q → t σ H Q) : PW X e t' := ⟨fun wh pins s σ H Q I q => h.run wh pins s σ H Q I (i σ H Q q)⟩
theorem PA_imp {X : Cx} {e : List Expr} {t t' : TA} (h : PA X e t) (i : ∀ σ H Q, t' σ H Q → t σ H Q) : PA X e t' := ⟨fun pos pins s σ H Q I q => h.run pos pins s σ H Q I (i σ H Q q)⟩
theorem PS_imp {X : Cx} {e : Stmt} {t t' : TS} (h : PS X e t) (i : ∀ D σ H, t' D σ H → t D σ H) : PS X e t' := ⟨fun pins s σ H D I q => h.run pins s σ H D I (i D σ H q)⟩
theorem PSs_imp {X : Cx} {e : List Stmt} {t t' : TS} (h : PSs X e t) (i : ∀ D σ H, t' D σ H → t D σ H) : PSs X e t' := ⟨fun pins s σ H D I q => h.run pins s σ H D I (i D σ H q)⟩

/-! ### the program's names -/
structure Sg where
  fl : Nat → List Str
  nm : Nat → Option (Str × Nat)
  mt : Nat → Option (Nat × Str × Nat)
  ini : Nat → Option (Str × Nat × Nat × List (List V))
  kw : Nat → Option (Str × Nat × Nat × Nat × List Str)
  prop : Nat → Option (Nat × Str)
  blt : Str → Bool
  con : Str → Option V
  cn : Str → Option Nat
  sub : Nat → Nat → Bool
  xn : Str → Option Nat
  xs : Nat → Nat → Bool
  dct : Str → Option (List (Str × Int)) := fun _ => none
/-- where the classes stand -/
structure Jn where
  sg : Sg
  G : Nat → Option Addr
  X : Nat → Option Addr
  ex : Option (Addr × Value × Option Addr)
abbrev Jn.inf (J : Jn) (K : PySem.W.Frag) : Inf := ⟨K, J.G, J.sg.fl, J.X, J.ex⟩
/-- a def's promise by its function -/
def spOf (I : Inf) (F : FnTab) (f n : Nat) : Sp := fun vs H Q E => vs.length = n ∧ ∃ (ws : List W) (S : Sto) (M : List Addr), Sim I S M H ∧ RepWs I M (mask S M H) ws vs ∧ EndR I S M H (RepW I) Q E (F f ws S)
/-- what a called def does, F; what an __init__ does, Fi; the classes -/
structure Tb (J : Jn) (P : Program) (wd : World) (K : PySem.W.Frag) (mg : Str → Option Value) (base : Heap) (F Fi : FnTab) (k : Nat) : Prop where
  seer : base.NoSeer
  tree : P.given.tree = none
  ge : 40 ≤ k
  call : ∀ f x n, J.sg.nm f = some (x, n) → ∃ (fa : Addr) (fd : FuncData) (ps : List Str), mg x = some (.ref fa) ∧ PySem.W.keepIn K (.ref fa) = true ∧ FnOk P wd K mg base (L2.CX P wd) (k + 1) fa fd ps (spOf (J.inf K) F f n) ∧ Binds K fd ps []
  meth : ∀ f c m n, J.sg.mt f = some (c, m, n) → ∃ (C fa : Addr) (fd : FuncData) (ps : List Str), J.G c = some C ∧ Meth K C m fa ∧ FnOk P wd K mg base (L2.CX P wd) (k + 1) fa fd ps (spOf (J.inf K) F f n) ∧ Binds K fd ps []
  make : ∀ c x f n dfl, J.sg.ini c = some (x, f, n, dfl) → ∃ (C fa : Addr) (fd : FuncData) (ps : List Str), J.G c = some C ∧ mg x = some (.ref C) ∧ Mk K C fa ∧ FnOk P wd K mg base (L2.CX P wd) k fa fd ps (spOf (J.inf K) Fi f n) ∧ ∀ dvs ∈ dfl, ∃ ds, Vals dvs ds ∧ Binds K fd ps ds
  makeK : ∀ c x f n m ks, J.sg.kw c = some (x, f, n, m, ks) → ∃ (C fa : Addr) (fd : FuncData) (ps : List Str), J.G c = some C ∧ mg x = some (.ref C) ∧ Mk K C fa ∧ FnOk P wd K mg base (L2.CX P wd) k fa fd ps (spOf (J.inf K) Fi f n) ∧ KBn K fd ps (m + 1) ks (fun us ws => us ++ ws) (fun vs zs => vs ++ zs)
  low : ∀ f c m n, J.sg.mt f = some (c, m, n) → ∃ (C fa : Addr) (fd : FuncData) (ps : List Str), J.G c = some C ∧ Meth K C m fa ∧ FnOk P wd K mg base (L2.CX P wd) k fa fd ps (spOf (J.inf K) Fi f n) ∧ Binds K fd ps []
  lowf : ∀ f x n, J.sg.nm f = some (x, n) → ∃ (fa : Addr) (fd : FuncData) (ps : List Str), mg x = some (.ref fa) ∧ FnOk P wd K mg base (L2.CX P wd) k fa fd ps (spOf (J.inf K) Fi f n) ∧ Binds K fd ps []
  fi : ∀ f c m n, J.sg.mt f = some (c, m, n) → ∃ (C fa : Addr), J.G c = some C ∧ Meth K C m fa ∧ PySem.W.fnIn K fa = true
  prop : ∀ f c x, J.sg.prop f = some (c, x) → ∃ (C p g : Addr) (fd : FuncData) (ps : List Str), J.G c = some C ∧ PropOf K C x p g ∧ FnOk P wd K mg base (L2.CX P wd) k g fd ps (spOf (J.inf K) Fi f 1) ∧ Binds K fd ps []
  cls : ∀ c C, J.G c = some C → Cls K C
  nat : ∀ c C x, J.G c = some C → x ∈ J.sg.fl c → NoAttr K C x
  glb : ∀ x, J.sg.blt x = true → mg x = none
  con : ∀ x v, J.sg.con x = some v → ∃ u, mg x = some u ∧ RelV v u
  dct : ∀ x kv, J.sg.dct x = some kv → ∃ d, mg x = some (.ref d) ∧ ∀ p ∈ kv, KDct K wd d p.1 (.int p.2)
  cnm : ∀ x c, J.sg.cn x = some c → ∃ C, J.G c = some C ∧ mg x = some (.ref C)
  ty : ∀ c C, J.G c = some C → PySem.W.findIn K (.ref C) "__class__" = some (some (.builtin "object.__class__")) ∧ PySem.W.specialIn K (.builtin "object.__class__") "__get__" = some (some (.builtin "getset_descriptor.__get__")) ∧ PySem.W.takesIn K (.builtin "object.__class__") = some true ∧ PySem.W.mroIn K C (.type "object") = some true
  sf : ∀ c C, J.G c = some C → PySem.W.selfFirst K C = true
  isc : ∀ c c' C C', J.G c = some C → J.G c' = some C' → PySem.W.kitOne K (.ref C) (.ref C') = some (J.sg.sub c c')
  isb : ∀ (T : String) c C, T ∈ ["NoneType", "bool", "int", "str", "tuple", "list", "dict"] → J.G c = some C → PySem.W.kitOne K (.type T) (.ref C) = some false
  ist : ∀ (T : String) c C, T ∈ ["NoneType", "bool", "int", "str", "tuple", "list", "dict"] → J.G c = some C → PySem.W.kitOne K (.ref C) (.type T) = some false
  xn : ∀ x c, J.sg.xn x = some c → ∃ C, J.X c = some C ∧ mg x = some (.ref C)
  xc : ∀ c C, J.X c = some C → XcF P wd K mg base C
  xs : ∀ c k C C', J.X c = some C → J.X k = some C' → PySem.W.kitOne K (.ref C) (.ref C') = some (J.sg.xs c k) ∧ PySem.W.exmOne K (.ref C) (.ref C') = some (J.sg.xs c k)
  xv : ∀ c C, J.X c = some C → PySem.W.kitOne K (.ref C) (.type "ValueError") = some true
/-- what the code may lean on -/
structure Cok (J : Jn) (X : Cx) (w : WX) (F Fi : FnTab) (k : Nat) : Prop extends Tb J X.prog X.w X.K X.mg X.base F Fi k where
  calm : X.calm = true
  nd : X.N.Nodup
  tk : Takes X w
  po : PassesOwn (model X.prog X.w) X.A X.env X.xe
  room : Room (k + 1) X.A
  dp : X.A.depth + Builtin.pylongFrames < recursionLimit
  sa : ∃ (env : PySem.Env) (l : List PySem.Env), X.stack = env :: l ∧ env.scope.isGenerator = false ∧ env.scope.isCoroutine = false ∧ env.builtins = builtinsNs ∧ env.globals = mainGlobals
abbrev w0 : WX := fun _ _ _ _ => False
/-- // of great ints goes by _pylong, where there is room -/
theorem Cok.pylong {J : Jn} {X : Cx} {w : WX} {F Fi : FnTab} {k : Nat} (t : Cok J X w F Fi k) {pins : List (Addr × Obj)} {σ : L2.St} {H : Hp} {s : Shared} (In : Inv X pins σ H s) : PylongRoom (model X.prog X.w) X.A s := by
  obtain ⟨env, l, e1, g1, g2, b1, b2⟩ := t.sa
  exact PylongRoom.of In.nolimit t.dp (SeerAt.of (t.seer.keeps In.bk) t.tree (by rw [In.ok.frames, e1]) g1 g2 b1 b2)
theorem Cok.blk {J : Jn} {X : Cx} {w : WX} {F Fi : FnTab} {k : Nat} (c : Cok J X w F Fi k) (s : Shared) (H : Hp) (scope : Scope) (cenv : PySem.Env) (fp : List Addr) : Cok J (X.blk s H scope cenv fp) w0 F Fi k :=
  ⟨c.toTb, c.calm, c.nd, takes0, PassesOwn.never, c.room, c.dp, c.sa⟩
end Py

/-! Py3: expressions. -/
namespace Py
open PySem PySem.Spec PyProof.Rows L2
@[simp] def R.ne {α : Type} : R α → R α
  | .ok a S => .ok a S
  | _ => .bad
theorem EndR.ne {α β : Type} {I : Inf} {S : Sto} {M : List Addr} {H : Hp} {rel : List Addr → Hp → α → β → Prop} {Q : β → Hp → Prop} {E E' : XK} {r : R α} (h : EndR I S M H rel Q E r.ne) : EndR I S M H rel Q E' r := by
  cases r with
  | ok a S' => exact h
  | exc c x S' => exact h.elim
  | bad => exact h

/-! ### what the combinators do -/
@[simp] def dVar (i : Nat) : DE := fun e S => match e[i]? with
  | some (some w) => .ok w S
  | _ => .bad
@[simp] def dC (x : D) : DE := fun _ S => .ok (.d x) S
@[simp] def dOp (f : W → W → Sto → R W) (a b : DE) : DE := fun e S => (a e S).bind fun x S1 => (b e S1).bind fun y S2 => (f x y S2).ne
@[simp] def dUn (f : W → Sto → R W) (a : DE) : DE := fun e S => (a e S).bind fun x S1 => (f x S1).ne
@[simp] def dNil : DA := fun _ S => .ok [] S
@[simp] def dCons (a : DE) (r : DA) : DA := fun e S => (a e S).bind fun x S1 => (r e S1).bind fun xs S2 => .ok (x :: xs) S2
/-- all plain -/
@[simp] def plainL : List W → Option (List D)
  | [] => some []
  | .d x :: r => match plainL r with
    | some xs => some (x :: xs)
    | none => none
  | .c _ :: _ => none
  | .e _ _ :: _ => none
@[simp] def dTup (a : DA) : DE := fun e S => (a e S).bind fun ws S1 => match plainL ws with
  | some xs => if xs.length ≤ sizeLine then .ok (.d (.tup xs)) S1 else .bad
  | none => .bad
@[simp] def dLst (a : DA) : DE := fun e S => (a e S).bind fun ws S1 => match plainL ws with
  | some xs => if xs.length ≤ sizeLine then .ok (.d (.lst xs)) S1 else .bad
  | none => .bad
/-- a list display that is a cell -/
@[simp] def dLstC (a : DA) : DE := fun e S => (a e S).bind fun ws S1 => if ws.length ≤ sizeLine then .ok (.c S1.length) (S1 ++ [.lst ws]) else .bad
/-- the cell is given up: what it holds is plain data from now on -/
@[simp] def frz : W → Sto → R W
  | .d x, S => .ok (.d x) S
  | .c i, S => match S[i]? with
    | some (.lst ws) => match plainL ws with
      | some xs => .ok (.d (.lst xs)) (S.set i .dead)
      | none => .bad
    | _ => .bad
  | .e _ _, _ => .bad
@[simp] def dFrz (a : DE) : DE := fun e S => (a e S).bind frz
/-- what a list or tuple holds -/
@[simp] def seqOf : W → Sto → Option (List W)
  | .d (.tup xs), _ => some (xs.map W.d)
  | .d (.lst xs), _ => some (xs.map W.d)
  | .d (.lsx xs), _ => some (xs.map W.d)
  | .c i, S => match S[i]? with
    | some (.lst ws) => some ws
    | _ => none
  | _, _ => none
@[simp] def opIx : W → W → Sto → R W
  | .d (.str x), .d (.int i), S => if x.length ≤ sizeLine then (match atI x.cps.toList i with
    | some c => .ok (.d (.str ⟨#[c]⟩)) S
    | none => .bad) else .bad
  | w, .d (.int i), S => match seqOf w S with
    | some ws => match atI ws i with
      | some v => .ok v S
      | none => .bad
    | none => .bad
  | _, _, _ => .bad
section
variable {J : Jn} {X : Cx} {w : WX} {a b c : Expr} {es : List Expr} {da db dc : DE} {dr : DA} {pos : Pos}
theorem rdE_dVar {I : Inf} {i : Nat} {σ : L2.St} {H : Hp} {Q : VK} (h : rdE I w (dVar i) σ H Q) : tVar i σ H Q := by
  obtain ⟨e, S, M, sim, sl, p⟩ := h
  unfold dVar at p
  split at p
  · rename_i u hu
    obtain ⟨v, h1, h2⟩ := sl.get i u hu
    exact ⟨v, h1, p.here sim h2⟩
  · exact p.elim
theorem sx_var {I : Inf} {i : Nat} (h : PE X a (tVar i)) : PE X a (rdE I w (dVar i)) := PE_imp h fun _ _ _ => rdE_dVar
theorem sx_c {I : Inf} {v : V} {x : D} (h : PE X a (tC v)) (r : ∀ H, Rep I H x v) : PE X a (rdE I w (dC x)) := PE_imp h fun σ H Q ⟨e, S, M, sim, sl, p⟩ => EndR.here (rel := RepW I) p sim (r _)
theorem sx_int {I : Inf} {i : Int} {j : Nat} : PE X (.Constant (.int i) j pos) (rdE I w (dC (.int i))) := sx_c pe_int fun _ => .int i
theorem sx_bl {I : Inf} {i : Bool} {j : Nat} : PE X (.Constant (.bool i) j pos) (rdE I w (dC (.bl i))) := sx_c pe_bl fun _ => .bl i
theorem sx_non {I : Inf} {j : Nat} : PE X (.Constant .none j pos) (rdE I w (dC .non)) := sx_c pe_non fun _ => .non
theorem sx_str {I : Inf} {i : Str} {j : Nat} : PE X (.Constant (.str i) j pos) (rdE I w (dC (.str i))) := sx_c pe_str fun _ => .str i
/-- a constant of the module that is a text, an int -/
theorem sx_gs {F Fi : FnTab} {k : Nat} {x s : Str} (c : Cok J X w F Fi k) (h : J.sg.con x = some (.str s)) (hg : Gl X x := by rfl) (hd : (x == ("__debug__" : Str)) = false := by decide) : PE X (.Name x pos) (rdE (J.inf X.K) w (dC (.str s))) := by
  obtain ⟨u, h1, h2⟩ := c.con x _ h
  exact sx_c (pe_glob hg h1 h2 hd) fun _ => .str s
theorem sx_gi {F Fi : FnTab} {k : Nat} {x : Str} {i : Int} (c : Cok J X w F Fi k) (h : J.sg.con x = some (.int i)) (hg : Gl X x := by rfl) (hd : (x == ("__debug__" : Str)) = false := by decide) : PE X (.Name x pos) (rdE (J.inf X.K) w (dC (.int i))) := by
  obtain ⟨u, h1, h2⟩ := c.con x _ h
  exact sx_c (pe_glob hg h1 h2 hd) fun _ => .int i
/-- two in a row -/
theorem rd_two {I : Inf} {α β : Type} {rel : List Addr → Hp → α → β → Prop} {σ : L2.St} {H : Hp} {Q : β → Hp → Prop} {f : W → W → Sto → R α} {P : V → V → Hp → Prop}
    (h : ∃ (env : Env) (S : Sto) (M : List Addr), Sim I S M H ∧ Slots I M (mask S M H) env σ ∧ EndR I S M H rel Q (fun cls dd H' => w cls dd σ H') ((da env S).bind fun x S1 => (db env S1).bind fun y S2 => f x y S2))
    (k : ∀ (x y : W) (v u : V) (S : Sto) (M : List Addr) (H : Hp), Sim I S M H → RepW I M (mask S M H) x v → RepW I M (mask S M H) y u → EndR I S M H rel Q (fun cls dd H' => w cls dd σ H') (f x y S) → P v u H) :
    rdE I w da σ H fun v H1 => rdE I w db σ H1 fun u H2 => P v u H2 := by
  obtain ⟨e, S, M, sim, sl, p⟩ := h
  refine ⟨e, S, M, sim, sl, (EndR.bind (rel1 := RepW I) p).imp fun v H1 ⟨x, S1, M1, l1, s1, r1, p1⟩ => ?_⟩
  refine ⟨e, S1, M1, s1, sl.mono l1, (EndR.bind (rel1 := RepW I) p1).imp fun u H2 ⟨y, S2, M2, l2, s2, r2, p2⟩ => ?_⟩
  exact k x y v u S2 M2 H2 s2 (r1.mono l2) r2 p2
theorem rd_one {I : Inf} {α β : Type} {rel : List Addr → Hp → α → β → Prop} {σ : L2.St} {H : Hp} {Q : β → Hp → Prop} {f : Env → W → Sto → R α} {P : V → Hp → Prop}
    (h : ∃ (env : Env) (S : Sto) (M : List Addr), Sim I S M H ∧ Slots I M (mask S M H) env σ ∧ EndR I S M H rel Q (fun cls dd H' => w cls dd σ H') ((da env S).bind fun x S1 => f env x S1))
    (k : ∀ (x : W) (v : V) (env : Env) (S : Sto) (M : List Addr) (H : Hp), Sim I S M H → Slots I M (mask S M H) env σ → RepW I M (mask S M H) x v → EndR I S M H rel Q (fun cls dd H' => w cls dd σ H') (f env x S) → P v H) :
    rdE I w da σ H P := by
  obtain ⟨e, S, M, sim, sl, p⟩ := h
  exact ⟨e, S, M, sim, sl, (EndR.bind (rel1 := RepW I) p).imp fun v H1 ⟨x, S1, M1, l1, s1, r1, p1⟩ => k x v e S1 M1 H1 s1 (sl.mono l1) r1 p1⟩
def rdOp (I : Inf) (f : W → W → Sto → R W) : R2 := fun v u H Q => ∃ (x y : W) (S : Sto) (M : List Addr), Sim I S M H ∧ RepW I M (mask S M H) x v ∧ RepW I M (mask S M H) y u ∧ EndR I S M H (RepW I) Q E0 (f x y S)
def rdUn (I : Inf) (f : W → Sto → R W) : V → Hp → VK → Prop := fun v H Q => ∃ (x : W) (S : Sto) (M : List Addr), Sim I S M H ∧ RepW I M (mask S M H) x v ∧ EndR I S M H (RepW I) Q E0 (f x S)
theorem rd_op {I : Inf} {f : W → W → Sto → R W} {σ : L2.St} {H : Hp} {Q : VK} (h : rdE I w (dOp f da db) σ H Q) : tOp (rdOp I f) (rdE I w da) (rdE I w db) σ H Q :=
  rd_two h fun x y _ _ S M _ s rx ry p => ⟨x, y, S, M, s, rx, ry, p.ne⟩
theorem rd_un {I : Inf} {f : W → Sto → R W} {σ : L2.St} {H : Hp} {Q : VK} (h : rdE I w (dUn f da) σ H Q) : tUn (rdUn I f) (rdE I w da) σ H Q :=
  rd_one h fun x _ _ S M _ s _ rx p => ⟨x, S, M, s, rx, p.ne⟩
theorem sx_op {I : Inf} {op : Operator} {f : W → W → Sto → R W} (ho : OpR X (binaryOp op) (rdOp I f)) (ha : PE X a (rdE I w da)) (hb : PE X b (rdE I w db)) : PE X (.BinOp a op b pos) (rdE I w (dOp f da db)) :=
  PE_imp (pe_op ho ha hb) fun _ _ _ => rd_op
theorem sx_un {I : Inf} {op : UnaryOp} {f : W → Sto → R W} (ho : UnR X (unaryOp op) (rdUn I f)) (ha : PE X a (rdE I w da)) : PE X (.UnaryOp op a pos) (rdE I w (dUn f da)) :=
  PE_imp (pe_un ho ha) fun _ _ _ => rd_un
theorem sx_cmp {I : Inf} {op : CmpOp} {f : W → W → Sto → R W} (ho : OpR X (compareOp op) (rdOp I f)) (ha : PE X a (rdE I w da)) (hb : PE X b (rdE I w db)) (hm : behindInMarks op b = false := by first | exact nomark _ | rfl) : PE X (.Compare a [op] [b] pos) (rdE I w (dOp f da db)) :=
  PE_imp (pe_cmpR ho ha hb hm) fun _ _ _ => rd_op
/-! arguments -/
theorem sa_nil {I : Inf} : PA X [] (rdA I w dNil) := PA_imp pa_nil fun σ H Q ⟨e, S, M, sim, sl, p⟩ => EndR.here (rel := RepWs I) p sim .nil
theorem sa_cons {I : Inf} (ha : PE X a (rdE I w da)) (hr : PA X es (rdA I w dr)) (hs : starEach (a :: es) X.env = (false, eval a X.env) :: starEach es X.env := by rfl) : PA X (a :: es) (rdA I w (dCons da dr)) :=
  PA_imp (pa_cons ha hr hs) fun σ H Q h => by
    obtain ⟨e, S, M, sim, sl, p⟩ := h
    refine ⟨e, S, M, sim, sl, (EndR.bind (rel1 := RepW I) p).imp fun v H1 ⟨x, S1, M1, l1, s1, r1, p1⟩ => ?_⟩
    refine ⟨e, S1, M1, s1, sl.mono l1, (EndR.bind (rel1 := RepWs I) p1).imp fun u H2 ⟨y, S2, M2, l2, s2, r2, p2⟩ => ?_⟩
    exact p2.here s2 (.cons (r1.mono l2) r2)
theorem rd_args {I : Inf} {α β : Type} {rel : List Addr → Hp → α → β → Prop} {σ : L2.St} {H : Hp} {Q : β → Hp → Prop} {f : List W → Sto → R α} {P : List V → Hp → Prop}
    (h : ∃ (env : Env) (S : Sto) (M : List Addr), Sim I S M H ∧ Slots I M (mask S M H) env σ ∧ EndR I S M H rel Q (fun cls dd H' => w cls dd σ H') ((dr env S).bind fun x S1 => f x S1))
    (k : ∀ (x : List W) (v : List V) (env : Env) (S : Sto) (M : List Addr) (H : Hp), Sim I S M H → Slots I M (mask S M H) env σ → RepWs I M (mask S M H) x v → EndR I S M H rel Q (fun cls dd H' => w cls dd σ H') (f x S) → P v H) :
    rdA I w dr σ H P := by
  obtain ⟨e, S, M, sim, sl, p⟩ := h
  exact ⟨e, S, M, sim, sl, (EndR.bind (rel1 := RepWs I) p).imp fun v H1 ⟨x, S1, M1, l1, s1, r1, p1⟩ => k x v e S1 M1 H1 s1 (sl.mono l1) r1 p1⟩
theorem plainL_rep {I : Inf} {M : List Addr} {H : Hp} : ∀ {ws : List W} {vs : List V} {xs : List D}, RepWs I M H ws vs → plainL ws = some xs → Reps I H xs vs
  | [], _, xs, .nil, e => by
    unfold plainL at e
    cases e
    exact .nil
  | .d x :: r, _, xs, .cons h t, e => by
    unfold plainL at e
    split at e
    · rename_i ys q
      cases e
      exact .cons h (plainL_rep t q)
    · cases e
  | .c _ :: _, _, xs, .cons _ _, e => by
    unfold plainL at e
    cases e
  | .e _ _ :: _, _, xs, .cons _ _, e => by
    unfold plainL at e
    cases e
theorem plainL_len : ∀ {ws : List W} {xs : List D}, plainL ws = some xs → xs.length = ws.length
  | [], xs, e => by
    unfold plainL at e
    cases e
    rfl
  | .d x :: r, xs, e => by
    unfold plainL at e
    split at e
    · rename_i ys q
      cases e
      simp [plainL_len q]
    · cases e
  | .c _ :: _, xs, e => by
    unfold plainL at e
    cases e
  | .e _ _ :: _, xs, e => by
    unfold plainL at e
    cases e
/-- a new thing is data -/
theorem new_d {I : Inf} {S : Sto} {M : List Addr} {H : Hp} {Q : VK} {E : XK} {x : D} {o : HO} {p : Addr} (h : EndR I S M H (RepW I) Q E (.ok (.d x) S)) (s : Sim I S M H) (np : H p = none)
    (r : ∀ H', H' p = some o → Ex (mask S M H) H' → Rep I H' x (.ref p)) : Q (.ref p) (upd H p o) := by
  obtain ⟨s', l⟩ := s.new (o := o) np
  exact h (.ref p) (upd H p o) M l s' (r _ (mask_new s np) l.ex)
theorem sx_tup {I : Inf} {x1 : Nat} (h : PA X es (rdA I w dr)) : PE X (.Tuple es x1 pos) (rdE I w (dTup dr)) :=
  PE_imp (pe_tup h) fun σ H Q q => rd_args q fun ws vs e S M H s sl r p => by
    split at p
    · rename_i xs hx
      have rr := plainL_rep r hx
      split at p
      · rename_i hl
        refine ⟨by rw [← rr.len]; exact hl, fun a na => new_d p s na fun H' ha ex => .tup (.inl (.inl ha)) (rr.mono ex)⟩
      · exact p.elim
    · exact p.elim
theorem sx_lst {I : Inf} (h : PA X es (rdA I w dr)) : PE X (.List es pos) (rdE I w (dLst dr)) :=
  PE_imp (pe_lst h) fun σ H Q q => rd_args q fun ws vs e S M H s sl r p => by
    split at p
    · rename_i xs hx
      have rr := plainL_rep r hx
      split at p
      · rename_i hl
        refine ⟨by rw [← rr.len]; exact hl, fun a na => new_d p s na fun H' ha ex => .lst ha (rr.mono ex)⟩
      · exact p.elim
    · exact p.elim
theorem low_of {I : Inf} {S : Sto} {M : List Addr} {H H' : Hp} {w : W} {v : V} (s : Sim I S M H) (r : RepW I M H' w v) : w.low S.length := by
  cases w with
  | d x => trivial
  | c i =>
    obtain ⟨a, e, _⟩ := r
    show i < S.length
    rw [← s.len]
    exact (List.getElem?_eq_some_iff.mp e).1
  | e c x => trivial
theorem lows_of {I : Inf} {S : Sto} {M : List Addr} {H H' : Hp} {ws : List W} {vs : List V} (s : Sim I S M H) (r : RepWs I M H' ws vs) : ∀ w ∈ ws, w.low S.length := by
  induction r with
  | nil => intro w m; cases m
  | cons r t ih =>
    intro w m
    rcases List.mem_cons.mp m with rfl | m
    · exact low_of s r
    · exact ih w m
theorem new_c {I : Inf} {S : Sto} {M : List Addr} {H : Hp} {Q : VK} {E : XK} {c : Ce} {o : HO} {p : Addr} (h : EndR I S M H (RepW I) Q E (.ok (.c S.length) (S ++ [c]))) (s : Sim I S M H) (np : H p = none) (lo : c.low S.length)
    (hc : CeAt I M (mask S M H) (some o) c) (hd : c ≠ .dead) : Q (.ref p) (upd H p o) := by
  obtain ⟨s', l⟩ := s.newC np lo hc hd
  refine h (.ref p) (upd H p o) _ l s' ⟨p, ?_, rfl⟩
  rw [List.getElem?_append_right (by rw [s.len]; exact Nat.le_refl _), s.len, Nat.sub_self]
  rfl
theorem sx_lstC {I : Inf} (h : PA X es (rdA I w dr)) : PE X (.List es pos) (rdE I w (dLstC dr)) :=
  PE_imp (pe_lst h) fun σ H Q q => rd_args q fun ws vs e S M H s sl r p => by
    split at p
    · rename_i hl
      refine ⟨by rw [← Paired.length r]; exact hl, fun a na => new_c p s na (lows_of s r) ⟨vs, rfl, r⟩ (by intro z; cases z)⟩
    · exact p.elim
theorem sx_frz {I : Inf} (h : PE X a (rdE I w da)) : PE X a (rdE I w (dFrz da)) :=
  PE_imp h fun σ H Q q => rd_one q fun x v e S M H s sl r p => by
    cases x with
    | d x => exact p.here s r
    | e c x => exact p.elim
    | c i =>
      dsimp only [frz] at p
      split at p
      · rename_i ws hc
        split at p
        · rename_i xs hx
          obtain ⟨a, ea, rfl⟩ := r
          obtain ⟨vs, ho, rw'⟩ := s.cell i _ a hc ea
          obtain ⟨s', l⟩ := s.kill hc
          refine p (.ref a) H M l s' (.lst ?_ ((plainL_rep rw' hx).mono l.ex))
          rw [mask_dead s hc ea]
          exact ho
        · exact p.elim
      · exact p.elim
end
end Py

/-! Py4: operators by values, calls of built-in functions. -/
namespace Py
open PySem PySem.Spec PyProof.Rows L2
/-! ints -/
@[simp] def opSub : W → W → Sto → R W
  | .d (.int i), .d (.int j), S => .ok (.d (.int (i - j))) S
  | _, _, _ => .bad
instance (i j : Int) : Decidable (IntMulOk i j) := by unfold IntMulOk; infer_instance
@[simp] def opMul : W → W → Sto → R W
  | .d (.int i), .d (.int j), S => if IntMulOk i j then .ok (.d (.int (i * j))) S else .bad
  | _, _, _ => .bad
@[simp] def opDiv : W → W → Sto → R W
  | .d (.int i), .d (.int j), S => if j ≠ 0 then .ok (.d (.int (i.fdiv j))) S else .bad
  | _, _, _ => .bad
@[simp] def opMod : W → W → Sto → R W
  | .d (.int i), .d (.int j), S => if j ≠ 0 then .ok (.d (.int (i.fmod j))) S else .bad
  | _, _, _ => .bad
@[simp] def opPow : W → W → Sto → R W
  | .d (.int i), .d (.int j), S => if 0 ≤ j ∧ j ≤ 1000000 ∧ i.natAbs < 2 ^ 64 then .ok (.d (.int (i ^ j.toNat))) S else .bad
  | _, _, _ => .bad
@[simp] def opNeg : W → Sto → R W
  | .d (.int i), S => .ok (.d (.int (-i))) S
  | _, _ => .bad
/-- the lists that + takes -/
@[simp] def lstOf : W → Sto → Option (List D)
  | .d (.lst xs), _ => some xs
  | .c i, S => match S[i]? with
    | some (.lst ws) => plainL ws
    | _ => none
  | _, _ => none
@[simp] def opAdd : W → W → Sto → R W
  | .d (.int i), .d (.int j), S => .ok (.d (.int (i + j))) S
  | .d (.str i), .d (.str j), S => if i.length + j.length ≤ sizeLine then .ok (.d (.str (i ++ j))) S else .bad
  | .d (.tup xs), .d (.tup ys), S => if xs.length + ys.length ≤ sizeLine then .ok (.d (.tup (xs ++ ys))) S else .bad
  | x, y, S => match lstOf x S, lstOf y S with
    | some xs, some ys => if xs.length + ys.length ≤ sizeLine then .ok (.d (.lst (xs ++ ys))) S else .bad
    | _, _ => .bad
/-! comparisons of scalars -/
@[simp] def eqS : D → D → Option Bool
  | .non, .non => some true
  | .non, .int _ => some false
  | .int _, .non => some false
  | .non, .bl _ => some false
  | .bl _, .non => some false
  | .non, .str _ => some false
  | .str _, .non => some false
  | .int i, .int j => some (decide (i = j))
  | .bl i, .bl j => some (decide (i = j))
  | .str i, .str j => some (decide (i = j))
  | .int _, .str _ => some false
  | .str _, .int _ => some false
  | .bl _, .str _ => some false
  | .str _, .bl _ => some false
  | _, _ => none
@[simp] def opEqS : W → W → Sto → R W
  | .d x, .d y, S => match eqS x y with
    | some b => .ok (.d (.bl b)) S
    | none => .bad
  | _, _, _ => .bad
@[simp] def opNeS : W → W → Sto → R W
  | .d x, .d y, S => match eqS x y with
    | some b => .ok (.d (.bl (!b))) S
    | none => .bad
  | _, _, _ => .bad
@[simp] def opLt : W → W → Sto → R W
  | .d (.int i), .d (.int j), S => .ok (.d (.bl (decide (i < j)))) S
  | .d (.str i), .d (.str j), S => .ok (.d (.bl (decide (i.cps.toList < j.cps.toList)))) S
  | _, _, _ => .bad
@[simp] def opLe : W → W → Sto → R W
  | .d (.int i), .d (.int j), S => .ok (.d (.bl (decide (i ≤ j)))) S
  | _, _, _ => .bad
@[simp] def opGt : W → W → Sto → R W
  | .d (.int i), .d (.int j), S => .ok (.d (.bl (decide (j < i)))) S
  | _, _, _ => .bad
@[simp] def opGe : W → W → Sto → R W
  | .d (.int i), .d (.int j), S => .ok (.d (.bl (decide (j ≤ i)))) S
  | _, _, _ => .bad
@[simp] def isN : W → Bool
  | .d .non => true
  | _ => false
@[simp] def opIs : W → W → Sto → R W
  | x, .d .non, S => .ok (.d (.bl (isN x))) S
  | _, _, _ => .bad
@[simp] def opIsNot : W → W → Sto → R W
  | x, .d .non, S => .ok (.d (.bl (!isN x))) S
  | _, _, _ => .bad
section
variable {X : Cx} {I : Inf}
/-- an operation on two ints -/
theorem or_int {f : Value → Value → Sem Value} {g : W → W → Sto → R W} {C : Int → Int → Prop} {h : Int → Int → D} {hv : Int → Int → V} (hr : ∀ H i j, Rep I H (h i j) (hv i j)) (o : OpR X f (rI C fun i j => hv i j))
    (hg : ∀ x y S, g x y S = .bad ∨ ∃ i j, x = .d (.int i) ∧ y = .d (.int j) ∧ (g x y S = .bad ∨ (C i j ∧ g x y S = .ok (.d (h i j)) S))) : OpR X f (rdOp I g) := by
  intro pins s σ H v u ov ou Q In rv ru hh
  obtain ⟨x, y, S, M, sim, rx, ry, p⟩ := hh
  rcases hg x y S with e | ⟨i, j, rfl, rfl, e⟩
  · rw [e] at p
    exact p.elim
  · cases rx
    cases ry
    rcases e with e | ⟨hc, e⟩
    · rw [e] at p
      exact p.elim
    · rw [e] at p
      exact o pins s σ H _ _ ov ou Q In rv ru ⟨i, j, rfl, rfl, hc, p.here sim (hr _ i j)⟩
theorem rI_of {X : Cx} {f : Value → Value → Sem Value} {g : Int → Int → V} (h : OpR X f (rI0 g)) : OpR X f (rI (fun _ _ => True) g) := fun pins s σ H x y v u Q I rx ry ⟨i, j, a, b, _, q⟩ => h pins s σ H x y v u Q I rx ry ⟨i, j, a, b, q⟩
theorem o_sub : OpR X (binaryOp .Sub) (rdOp I opSub) := or_int (C := fun _ _ => True) (h := fun i j => .int (i - j)) (fun _ i j => .int _) (rI_of op_sub) fun x y S => by
  unfold opSub
  split
  · exact .inr ⟨_, _, rfl, rfl, .inr ⟨trivial, rfl⟩⟩
  · exact .inl rfl
theorem o_mul : OpR X (binaryOp .Mult) (rdOp I opMul) := or_int (C := IntMulOk) (h := fun i j => .int (i * j)) (fun _ i j => .int _) (opI fun _ _ _ _ _ _ _ hc q => mul_int q hc) fun x y S => by
  unfold opMul
  split
  · refine .inr ⟨_, _, rfl, rfl, ?_⟩
    split
    · exact .inr ⟨by assumption, rfl⟩
    · exact .inl rfl
  · exact .inl rfl
theorem o_div {J : Jn} {w : WX} {F Fi : FnTab} {k : Nat} (t : Cok J X w F Fi k) : OpR X (binaryOp .FloorDiv) (rdOp I opDiv) := or_int (C := fun _ j => j ≠ 0) (h := fun i j => .int (i.fdiv j)) (fun _ i j => .int _) (fun pins s σ H x y v u Q In rx ry h => by
    obtain ⟨i, j, rfl, rfl, hc, q⟩ := h
    obtain ⟨t1, rfl⟩ := rx
    obtain ⟨t2, rfl⟩ := ry
    exact floordiv_int hc ⟨.int _, H, In.tok _, ⟨_, rfl⟩, q⟩ (.inr (t.pylong In))) fun x y S => by
  unfold opDiv
  split
  · refine .inr ⟨_, _, rfl, rfl, ?_⟩
    split
    · exact .inr ⟨by assumption, rfl⟩
    · exact .inl rfl
  · exact .inl rfl
theorem o_mod : OpR X (binaryOp .Mod) (rdOp I opMod) := or_int (C := fun _ j => j ≠ 0) (h := fun i j => .int (i.fmod j)) (fun _ i j => .int _) op_modN fun x y S => by
  unfold opMod
  split
  · refine .inr ⟨_, _, rfl, rfl, ?_⟩
    split
    · exact .inr ⟨by assumption, rfl⟩
    · exact .inl rfl
  · exact .inl rfl
theorem o_pow : OpR X (binaryOp .Pow) (rdOp I opPow) := or_int (C := CPow) (h := fun i j => .int (i ^ j.toNat)) (fun _ i j => .int _) op_pow fun x y S => by
  unfold opPow
  split
  · refine .inr ⟨_, _, rfl, rfl, ?_⟩
    split
    · exact .inr ⟨by assumption, rfl⟩
    · exact .inl rfl
  · exact .inl rfl
theorem u_neg : UnR X (unaryOp .USub) (rdUn I opNeg) := by
  intro pins s σ H v ov Q In rv hh
  obtain ⟨x, S, M, sim, rx, p⟩ := hh
  unfold opNeg at p
  split at p
  · cases rx
    exact un_neg pins s σ H _ ov Q In rv ⟨_, rfl, p.here sim (.int _)⟩
  · exact p.elim
theorem lstOf_at {S : Sto} {M : List Addr} {H : Hp} {x : W} {v : V} {xs : List D} (sim : Sim I S M H) (r : RepW I M (mask S M H) x v) (e : lstOf x S = some xs) : ∃ a vs, v = .ref a ∧ H a = some (.lst vs) ∧ Reps I (mask S M H) xs vs := by
  unfold lstOf at e
  split at e
  · cases e
    cases r with
    | lst h q => exact ⟨_, _, rfl, mask_ex _ _ h, q⟩
  · split at e
    · rename_i ws hc
      obtain ⟨a, ea, rfl⟩ := r
      obtain ⟨vs, ho, q⟩ := sim.cell _ _ a hc ea
      exact ⟨a, vs, rfl, ho, plainL_rep q e⟩
    · cases e
  · cases e
theorem o_add : OpR X (binaryOp .Add) (rdOp ⟨X.K, I.G, I.fl, I.X, I.ex⟩ opAdd) := by
  intro pins s σ H v u ov ou Q In rv ru hh
  obtain ⟨x, y, S, M, sim, rx, ry, p⟩ := hh
  unfold opAdd at p
  split at p
  · cases rx
    cases ry
    exact op_add pins s σ H _ _ ov ou Q In rv ru ⟨_, _, rfl, rfl, p.here sim (.int _)⟩
  · split at p
    · cases rx
      cases ry
      exact op_add_str pins s σ H _ _ ov ou Q In rv ru ⟨_, _, rfl, rfl, by assumption, p.here sim (.str _)⟩
    · exact p.elim
  · split at p
    · rename_i xs ys S' hl
      cases rx with
      | tup h1 r1 =>
      cases ry with
      | tup h2 r2 =>
      refine op_catA pins s σ H _ _ ov ou Q In rv ru ⟨_, _, _, _, rfl, rfl, ex_t mask_ex h1, ex_t mask_ex h2, by rw [← r1.len, ← r2.len]; exact hl, fun e => ?_, fun e e' => ?_, fun _ _ a na => new_d p sim na fun H' ha ex => .tup (.inl (.inl ha)) ((r1.append r2).mono ex)⟩
      · subst e
        cases r1
        exact p.here sim (.tup h2 r2)
      · subst e'
        cases r2
        rw [List.append_nil] at p
        exact p.here sim (.tup h1 r1)
    · exact p.elim
  · split at p
    · rename_i xs ys e1 e2
      split at p
      · rename_i hl
        obtain ⟨a, vs, rfl, h1, r1⟩ := lstOf_at sim rx e1
        obtain ⟨b, us, rfl, h2, r2⟩ := lstOf_at sim ry e2
        exact op_cat pins s σ H _ _ ov ou Q In rv ru ⟨a, b, vs, us, rfl, rfl, h1, h2, by rw [← r1.len, ← r2.len]; exact hl, fun q nq => new_d p sim nq fun H' ha ex => .lst ha ((r1.append r2).mono ex)⟩
      · exact p.elim
    · exact p.elim
theorem eqS_rep {H : Hp} {x y : D} {v u : V} {b : Bool} (rx : Rep I H x v) (ry : Rep I H y u) (e : eqS x y = some b) : scal v u = true ∧ b = decide (v = u) := by
  unfold eqS at e
  split at e <;> cases e <;> cases rx <;> cases ry <;> refine ⟨rfl, ?_⟩ <;> simp
theorem o_eq : OpR X (compareOp .Eq) (rdOp I opEqS) := by
  intro pins s σ H v u ov ou Q In rv ru hh
  obtain ⟨x, y, S, M, sim, rx, ry, p⟩ := hh
  unfold opEqS at p
  split at p
  · split at p
    · rename_i b e
      obtain ⟨h1, h2⟩ := eqS_rep rx ry e
      subst h2
      exact op_eq pins s σ H _ _ ov ou Q In rv ru ⟨h1, p.here sim (.bl _)⟩
    · exact p.elim
  · exact p.elim
theorem o_ne : OpR X (compareOp .NotEq) (rdOp I opNeS) := by
  intro pins s σ H v u ov ou Q In rv ru hh
  obtain ⟨x, y, S, M, sim, rx, ry, p⟩ := hh
  unfold opNeS at p
  split at p
  · split at p
    · rename_i b e
      obtain ⟨h1, h2⟩ := eqS_rep rx ry e
      subst h2
      exact op_ne pins s σ H _ _ ov ou Q In rv ru ⟨h1, p.here sim (.bl _)⟩
    · exact p.elim
  · exact p.elim
theorem o_lt : OpR X (compareOp .Lt) (rdOp I opLt) := by
  intro pins s σ H v u ov ou Q In rv ru hh
  obtain ⟨x, y, S, M, sim, rx, ry, p⟩ := hh
  unfold opLt at p
  split at p
  · cases rx
    cases ry
    exact op_lt pins s σ H _ _ ov ou Q In rv ru ⟨_, _, rfl, rfl, p.here sim (.bl _)⟩
  · cases rx
    cases ry
    exact op_lt_str pins s σ H _ _ ov ou Q In rv ru ⟨_, _, rfl, rfl, p.here sim (.bl _)⟩
  · exact p.elim
theorem o_le : OpR X (compareOp .LtE) (rdOp I opLe) := or_int (C := fun _ _ => True) (h := fun i j => .bl (decide (i ≤ j))) (fun _ i j => .bl _) (rI_of op_le) fun x y S => by
  unfold opLe
  split
  · exact .inr ⟨_, _, rfl, rfl, .inr ⟨trivial, rfl⟩⟩
  · exact .inl rfl
theorem o_gt : OpR X (compareOp .Gt) (rdOp I opGt) := or_int (C := fun _ _ => True) (h := fun i j => .bl (decide (j < i))) (fun _ i j => .bl _) (rI_of op_gt) fun x y S => by
  unfold opGt
  split
  · exact .inr ⟨_, _, rfl, rfl, .inr ⟨trivial, rfl⟩⟩
  · exact .inl rfl
theorem o_ge : OpR X (compareOp .GtE) (rdOp I opGe) := or_int (C := fun _ _ => True) (h := fun i j => .bl (decide (j ≤ i))) (fun _ i j => .bl _) (rI_of op_ge) fun x y S => by
  unfold opGe
  split
  · exact .inr ⟨_, _, rfl, rfl, .inr ⟨trivial, rfl⟩⟩
  · exact .inl rfl
theorem isN_rep {M : List Addr} {H : Hp} {x : W} {v : V} (r : RepW I M H x v) : isN x = decide (v = .non) := by
  cases x with
  | c i => obtain ⟨a, _, rfl⟩ := r; rfl
  | e c x => obtain ⟨a, _, _, _, rfl, _⟩ := r; rfl
  | d x => cases r <;> rfl
theorem o_is : OpR X (compareOp .Is) (rdOp I opIs) := by
  intro pins s σ H v u ov ou Q In rv ru hh
  obtain ⟨x, y, S, M, sim, rx, ry, p⟩ := hh
  unfold opIs at p
  split at p
  · cases ry
    rw [isN_rep rx] at p
    exact op_isN pins s σ H _ _ ov ou Q In rv ru ⟨rfl, p.here sim (.bl _)⟩
  · exact p.elim
theorem o_isnot : OpR X (compareOp .IsNot) (rdOp I opIsNot) := by
  intro pins s σ H v u ov ou Q In rv ru hh
  obtain ⟨x, y, S, M, sim, rx, ry, p⟩ := hh
  unfold opIsNot at p
  split at p
  · cases ry
    rw [isN_rep rx] at p
    exact op_notN pins s σ H _ _ ov ou Q In rv ru ⟨rfl, p.here sim (.bl _)⟩
  · exact p.elim
end
/-! ### subscripts -/
section
variable {J : Jn} {X : Cx} {w : WX} {a b : Expr} {es : List Expr} {da db : DE} {dr : DA} {pos : Pos} {I : Inf}
theorem reps_map {M : List Addr} {H : Hp} {xs : List D} {vs : List V} (r : Reps I H xs vs) : RepWs I M H (xs.map W.d) vs := by
  induction xs generalizing vs with
  | nil => cases r; exact .nil
  | cons x xs ih => cases r with | cons r t => exact .cons r (ih t)
theorem seqOf_at {S : Sto} {M : List Addr} {H : Hp} {x : W} {v : V} {ws : List W} (sim : Sim I S M H) (r : RepW I M (mask S M H) x v) (e : seqOf x S = some ws) : ∃ a vs, v = .ref a ∧ (SqL I.K H a vs ∨ SqT I.K H a vs) ∧ RepWs I M (mask S M H) ws vs := by
  unfold seqOf at e
  split at e
  · cases e
    cases r with
    | tup h q => exact ⟨_, _, rfl, .inr (ex_t mask_ex h), reps_map q⟩
  · cases e
    cases r with
    | lst h q => exact ⟨_, _, rfl, .inl (.inl (.inl (mask_ex _ _ h))), reps_map q⟩
  · cases e
    cases r with
    | lsx h q => exact ⟨_, _, rfl, .inl (ex_l mask_ex h), reps_map q⟩
  · split at e
    · rename_i y i hc
      cases e
      obtain ⟨a, ea, rfl⟩ := r
      obtain ⟨vs, ho, q⟩ := sim.cell _ _ a hc ea
      exact ⟨a, vs, rfl, .inl (.inl (.inl ho)), q⟩
    · cases e
  · cases e
theorem atI_rep {M : List Addr} {H : Hp} {ws : List W} {vs : List V} {i : Int} {x : W} (r : RepWs I M H ws vs) (e : atI ws i = some x) : ∃ v, atI vs i = some v ∧ RepW I M H x v := by
  unfold atI at e ⊢
  rw [← Paired.length r]
  cases q : ixN ws.length i with
  | none => rw [q] at e; cases e
  | some j =>
    rw [q] at e
    have e : ws[j]? = some x := e
    show ∃ v, vs[j]? = some v ∧ RepW I M H x v
    exact paired_get r e
theorem ix_all : IxR X (rdOp ⟨X.K, I.G, I.fl, I.X, I.ex⟩ opIx) := by
  intro value slice pins s σ H v u ov ou Q In rv ru hh hs
  obtain ⟨x, y, S, M, sim, rx, ry, p⟩ := hh
  unfold opIx at p
  split at p
  · split at p
    · rename_i hl
      split at p
      · rename_i c hc
        cases rx
        cases ry
        exact ix_str value slice pins s σ H _ _ ov ou Q In rv ru ⟨_, _, c, rfl, rfl, hl, hc, p.here sim (.str _)⟩ hs
      · exact p.elim
    · exact p.elim
  · split at p
    · rename_i ws hw
      split at p
      · rename_i q hq
        cases ry
        obtain ⟨a, vs, rfl, ht, r⟩ := seqOf_at sim rx hw
        obtain ⟨v, hv, rq⟩ := atI_rep r hq
        rcases ht with ht | ht
        · exact ix_list value slice pins s σ H _ _ ov ou Q In rv ru ⟨a, vs, _, v, rfl, rfl, ht, hv, p.here sim rq⟩ hs
        · exact ix_tup value slice pins s σ H _ _ ov ou Q In rv ru ⟨a, vs, _, v, rfl, rfl, ht, hv, p.here sim rq⟩ hs
      · exact p.elim
    · exact p.elim
  · exact p.elim
theorem sx_ix (ha : PE X a (rdE ⟨X.K, I.G, I.fl, I.X, I.ex⟩ w da)) (hb : PE X b (rdE ⟨X.K, I.G, I.fl, I.X, I.ex⟩ w db)) (hs : PlainIx b := by exact fun _ _ => rfl) : PE X (.Subscript a b pos) (rdE ⟨X.K, I.G, I.fl, I.X, I.ex⟩ w (dOp opIx da db)) :=
  PE_imp (pe_ix ix_all ha hb hs) fun _ _ _ => rd_op
end
end Py

/-! Py5: calls of defs, classes, methods; attributes. -/
namespace Py
open PySem PySem.Spec PyProof.Rows L2
/-! ### with the wish at the slots -/
section
variable {X : Cx} {CX : CXT} {k : Nat} {f C : Addr} {fd : FuncData} {ps : List Str} {sp : Sp} {dvs : List V} {ds : List Value} {E : L2.St → XK} {x m : Str} {p pos apos : Pos} {e o : Expr} {es : List Expr} {ta : TE} {t : TA}
theorem pe_call0D (F : FnOk X.prog X.w X.K X.mg X.base CX k f fd ps sp) (hr : Room k X.A) (hg : Gl X x) (hm : X.mg x = some (.ref f)) (hk : PySem.W.keepIn X.K (.ref f) = true) (hb : Binds X.K fd ps ds) (hd : Vals dvs ds) (hx : ∀ σ, PassesAt CX X σ (E σ))
    (hdb : (x == ("__debug__" : Str)) = false := by decide) : PE X (.Call (.Name x p) [] [] pos) (tCallSD sp dvs E tNil) := by
  refine ⟨fun pins s σ H Q I h => ?_⟩
  refine wpAny_Call_Name_kw (ld_glob I hg hm ?_ hdb)
  exact PySem.W.callWith_K0 I.kIn hk (run_fnSD (us := []) F hr hb hd (hx σ) I .nil h)
def tMethD (C : Addr) (m : Str) (sp : Sp) (dvs : List V) (E : L2.St → XK) (ta : TE) (t : TA) : TE := fun σ H Q => ta σ H fun x H1 => ∃ a dx fs, x = .ref a ∧ H1 a = some (.ins C dx fs) ∧ fs.lookup m = none ∧
  t σ H1 fun vs H2 => sp (x :: (vs ++ dvs)) H2 Q (E σ)
theorem pe_methD {pl : Sem Bool} (he : PE X o ta) (c : Cls X.K C) (hm : Meth X.K C m f) (F : FnOk X.prog X.w X.K X.mg X.base CX k f fd ps sp) (hr : Room k X.A) (hb : Binds X.K fd ps ds) (hd : Vals dvs ds) (hx : ∀ σ, PassesAt CX X σ (E σ)) (ha : PA X (e :: es) t)
    (hst : starEach (e :: es) X.env = (false, eval e X.env) :: starEach es X.env := by rfl) (hpl : (backTo pos (starEach es X.env)).any (·.1) = false := by rfl)
    (ht : eval (.Call (.Attribute o m apos) (e :: es) [] pos) X.env = (do
      let ov ← eval o X.env
      standAt apos.atName
      let (f, first) ← holding [ov] (getMethod ov m pl)
      callWith pos f first (backTo pos (starEach (e :: es) X.env)) (backToKw pos (keywordEach [] X.env))) := by rfl) :
    PE X (.Call (.Attribute o m apos) (e :: es) [] pos) (tMethD C m sp dvs E ta t) := by
  refine ⟨fun pins s σ H Q I h => ?_⟩
  refine PySem.W.methodCall_KW (pl := pl) (thn (he.run pins s σ H _ I h) fun u s1 ⟨x, H1, I1, rx, a, dx, fs, ex, ea, l, q⟩ => ?_) ht
  subst ex
  obtain rfl : u = Value.ref a := rx
  refine getmeth_ok I1 ea c hm l ?_
  refine PySem.W.callWith_K (first := [.ref a]) (h₀ := X.base) I.ok.mod.kin hm.kp (thn (ha.run pos pins s1 σ H1 _ I1 q) fun us s2 ⟨vs, H2, I2, r, q2⟩ => ⟨I2.kIn, ?_⟩) hst hpl
  exact run_fnSD (us := .ref a :: us) (vs := .ref a :: vs) F hr hb hd (hx σ) I2 (.cons rfl r) q2
theorem pe_meth0D {pl : Sem Bool} (he : PE X o ta) (c : Cls X.K C) (hm : Meth X.K C m f) (F : FnOk X.prog X.w X.K X.mg X.base CX k f fd ps sp) (hr : Room k X.A) (hb : Binds X.K fd ps ds) (hd : Vals dvs ds) (hx : ∀ σ, PassesAt CX X σ (E σ))
    (ht : eval (.Call (.Attribute o m apos) [] [] pos) X.env = (do
      let ov ← eval o X.env
      standAt apos.atName
      let (f, first) ← holding [ov] (getMethod ov m pl)
      callWith pos f first (backTo pos (starEach [] X.env)) (backToKw pos (keywordEach [] X.env))) := by rfl) :
    PE X (.Call (.Attribute o m apos) [] [] pos) (tMethD C m sp dvs E ta tNil) := by
  refine ⟨fun pins s σ H Q I h => ?_⟩
  refine PySem.W.methodCall_KW (pl := pl) (thn (he.run pins s σ H _ I h) fun u s1 ⟨x, H1, I1, rx, a, dx, fs, ex, ea, l, q⟩ => ?_) ht
  subst ex
  obtain rfl : u = Value.ref a := rx
  refine getmeth_ok I1 ea c hm l ?_
  exact PySem.W.callWith_K0 (first := [.ref a]) I1.kIn hm.kp (run_fnSD (us := [.ref a]) (vs := [.ref a]) F hr hb hd (hx σ) I1 (.cons rfl .nil) q)
/-- C(e, .., k = v, ..) -/
def tMakeK (C : Addr) (n m : Nat) (sp : Sp) (gV : List V → List V → List V) (E : L2.St → XK) (t tk : TA) : TE := fun σ H Q => t σ H fun vs H1 => tk σ H1 fun zs H2 => vs.length = n ∧ zs.length = m ∧
  ∀ x dx, H2 x = none → H2 dx = none → dx ≠ x → sp (gV (.ref x :: vs) zs) (upd (upd H2 dx (.own x)) x (.ins C dx [])) (fun v H3 => v = .non ∧ Q (.ref x) H3) (E σ)
theorem run_makeK {kk n : Nat} {ks : List Str} {g : List Value → List Value → List Value} {gV : List V → List V → List V} {pins : List (Addr × Obj)} {σ : L2.St} {H : Hp} {s : Shared} {Q : VK} {us ws : List Value} {vs zs : List V} (M : Mk X.K C f) (F : FnOk X.prog X.w X.K X.mg X.base CX kk f fd ps sp) (hr : Room (kk + 1) X.A) (hb : KBn X.K fd ps (n + 1) ks g gV)
    (hx : PassesAt CX X σ (E σ)) (I : Inv X pins σ H s) (r : Vals vs us) (rz : Vals zs ws) (l1 : vs.length = n) (l2 : zs.length = ks.length)
    (h : ∀ x dx, H x = none → H dx = none → dx ≠ x → sp (gV (.ref x :: vs) zs) (upd (upd H dx (.own x)) x (.ins C dx [])) (fun v H2 => v = .non ∧ Q (.ref x) H2) (E σ)) :
    wpAny (model X.prog X.w) X.A (call (.ref C) us (ks.zip ws)) (EP X pins σ Q) X.xe s := by
  have hq := h (s.heap.objs.size + 1) s.heap.objs.size (I.hok.fresh (Nat.le_succ _)) (I.hok.fresh (Nat.le_refl _)) (Nat.ne_of_lt (Nat.lt_succ_self _))
  have I2 := Inv.made (C := C) I
  have r2 := hb.rel (show Vals (V.ref (s.heap.objs.size + 1) :: vs) (Value.ref (s.heap.objs.size + 1) :: us) from .cons rfl r) rz
  have e1 : (Value.ref (s.heap.objs.size + 1) :: us).length = n + 1 := by rw [List.length_cons, ← r.length, l1]
  have e2 : ws.length = ks.length := rz.length.symm.trans l2
  refine wpAny_call (make_map (f := f) I.kIn M.makes M.init (beq_iff_eq.mp M.fn) (codeAny_mono (F.run _ X.stack _ _ ⟨Value.ref (s.heap.objs.size + 1) :: us, ks.zip ws⟩ _ _ _ (E σ) (hr.make C us (ks.zip ws))
    (I2.env0.make C us (ks.zip ws)) (hb.to _ _ ws I2.kIn e1 e2) r2 hq) fun r s' hq' => ?_))
  cases r with
  | error e => exact hx pins _ _ e s' I2 hq'
  | ok fl =>
    cases fl with
    | ret u =>
      obtain ⟨v, H', I3, rv, ev, q3⟩ := I2.after hq'
      subst ev
      exact ⟨rv, ⟨V.ref (s.heap.objs.size + 1), H', I3, rfl, q3⟩⟩
    | next => exact hq'.elim
    | brk => exact hq'.elim
    | cont => exact hq'.elim
theorem pe_makeK {kk n : Nat} {ks : List Str} {g : List Value → List Value → List Value} {gV : List V → List V → List V} {kws : List Keyword} {t tk : TA} (M : Mk X.K C f) (F : FnOk X.prog X.w X.K X.mg X.base CX kk f fd ps sp) (hr : Room (kk + 1) X.A) (hg : Gl X x) (hm : X.mg x = some (.ref C)) (hb : KBn X.K fd ps (n + 1) ks g gV) (hx : ∀ σ, PassesAt CX X σ (E σ))
    (ha : PA X (e :: es) t) (hkw : PK X kws tk) (hall : (backToKw pos (keywordEach kws X.env)).all (·.1.isSome) = true := by rfl) (hks : (backToKw pos (keywordEach kws X.env)).filterMap (·.1) = ks := by rfl)
    (hdb : (x == ("__debug__" : Str)) = false := by decide) (he : starEach (e :: es) X.env = (false, eval e X.env) :: starEach es X.env := by rfl)
    (hpl : ((backTo pos (starEach (e :: es) X.env)).any (·.1) || (backToKw pos (keywordEach kws X.env)).any (·.1.isNone)) = false := by rfl) :
    PE X (.Call (.Name x p) (e :: es) kws pos) (tMakeK C n ks.length sp gV E t tk) := by
  refine ⟨fun pins s σ H Q I h => wpAny_Call_Name_kw (ld_glob I hg hm ?_ hdb)⟩
  refine PySem.W.callWith_KW (h₀ := X.base) I.ok.mod.kin M.kp hall (thn (ha.run pos pins s σ H _ I h) fun us s1 ⟨vs, H1, I1, r, q⟩ => ?_) hpl he
  refine thn (hkw.run pos pins s1 σ H1 _ I1 q) fun ws s2 ⟨zs, H2, I2, rz, l1, l2, q2⟩ => ⟨I2.kIn, ?_⟩
  rw [hks]
  exact run_makeK M F hr hb (hx σ) I2 r rz l1 l2 q2
def tMakeD (C : Addr) (sp : Sp) (dvs : List V) (E : L2.St → XK) (t : TA) : TE := fun σ H Q => t σ H fun vs H1 => ∀ x dx, H1 x = none → H1 dx = none → dx ≠ x →
  sp (.ref x :: (vs ++ dvs)) (upd (upd H1 dx (.own x)) x (.ins C dx [])) (fun v H2 => v = .non ∧ Q (.ref x) H2) (E σ)
theorem run_makeD {pins : List (Addr × Obj)} {σ : L2.St} {H : Hp} {s : Shared} {Q : VK} {us : List Value} {vs : List V} (M : Mk X.K C f) (F : FnOk X.prog X.w X.K X.mg X.base CX k f fd ps sp) (hr : Room (k + 1) X.A) (hb : Binds X.K fd ps ds) (hd : Vals dvs ds)
    (hx : PassesAt CX X σ (E σ)) (I : Inv X pins σ H s) (r : Vals vs us)
    (h : ∀ x dx, H x = none → H dx = none → dx ≠ x → sp (.ref x :: (vs ++ dvs)) (upd (upd H dx (.own x)) x (.ins C dx [])) (fun v H2 => v = .non ∧ Q (.ref x) H2) (E σ)) :
    wpAny (model X.prog X.w) X.A (call (.ref C) us) (EP X pins σ Q) X.xe s := by
  have hq := h (s.heap.objs.size + 1) s.heap.objs.size (I.hok.fresh (Nat.le_succ _)) (I.hok.fresh (Nat.le_refl _)) (Nat.ne_of_lt (Nat.lt_succ_self _))
  have I2 := Inv.made (C := C) I
  have r2 : Vals (V.ref (s.heap.objs.size + 1) :: (vs ++ dvs)) (Value.ref (s.heap.objs.size + 1) :: (us ++ ds)) := .cons rfl (r.append hd)
  have hl : (Value.ref (s.heap.objs.size + 1) :: us ++ ds).length = ps.length := by
    have e := r2.length
    rw [F.len _ _ _ _ hq] at e
    exact e.symm
  refine wpAny_call (make_map (f := f) I.kIn M.makes M.init (beq_iff_eq.mp M.fn) (codeAny_mono (F.run _ X.stack _ _ ⟨Value.ref (s.heap.objs.size + 1) :: us, []⟩ (Value.ref (s.heap.objs.size + 1) :: (us ++ ds)) _ _ (E σ) (hr.make C us [])
    (I2.env0.make C us []) (hb _ (Value.ref (s.heap.objs.size + 1) :: us) I2.kIn hl) r2 hq) fun r s' hq' => ?_))
  cases r with
  | error e => exact hx pins _ _ e s' I2 hq'
  | ok fl =>
    cases fl with
    | ret u =>
      obtain ⟨v, H', I3, rv, ev, q3⟩ := I2.after hq'
      subst ev
      exact ⟨rv, ⟨V.ref (s.heap.objs.size + 1), H', I3, rfl, q3⟩⟩
    | next => exact False.elim hq'
    | brk => exact False.elim hq'
    | cont => exact False.elim hq'
theorem pe_makeD (M : Mk X.K C f) (F : FnOk X.prog X.w X.K X.mg X.base CX k f fd ps sp) (hr : Room (k + 1) X.A) (hg : Gl X x) (hm : X.mg x = some (.ref C)) (hb : Binds X.K fd ps ds) (hd : Vals dvs ds) (hx : ∀ σ, PassesAt CX X σ (E σ))
    (ha : PA X (e :: es) t) (hdb : (x == ("__debug__" : Str)) = false := by decide) (he : starEach (e :: es) X.env = (false, eval e X.env) :: starEach es X.env := by rfl) (hpl : (backTo pos (starEach es X.env)).any (·.1) = false := by rfl) :
    PE X (.Call (.Name x p) (e :: es) [] pos) (tMakeD C sp dvs E t) := by
  refine ⟨fun pins s σ H Q I h => ?_⟩
  refine wpAny_Call_Name_kw (ld_glob I hg hm ?_ hdb)
  refine PySem.W.callWith_K (h₀ := X.base) I.ok.mod.kin M.kp (thn (ha.run pos pins s σ H _ I h) fun us s1 ⟨vs, H1, I1, r, q⟩ => ⟨I1.kIn, ?_⟩) he hpl
  exact run_makeD M F hr hb hd (hx σ) I1 r q
theorem pe_make0D (M : Mk X.K C f) (F : FnOk X.prog X.w X.K X.mg X.base CX k f fd ps sp) (hr : Room (k + 1) X.A) (hg : Gl X x) (hm : X.mg x = some (.ref C)) (hb : Binds X.K fd ps ds) (hd : Vals dvs ds) (hx : ∀ σ, PassesAt CX X σ (E σ))
    (hdb : (x == ("__debug__" : Str)) = false := by decide) : PE X (.Call (.Name x p) [] [] pos) (tMakeD C sp dvs E tNil) := by
  refine ⟨fun pins s σ H Q I h => ?_⟩
  refine wpAny_Call_Name_kw (ld_glob I hg hm ?_ hdb)
  exact PySem.W.callWith_K0 I.kIn M.kp (run_makeD (us := []) M F hr hb hd (hx σ) I .nil h)
end
/-! ### how a def ends -/
@[simp] def fin (n : Nat) : R W → R W
  | .ok (.d x) S => .ok (.d x) (S.take n)
  | .ok (.c i) S => if i < n then .ok (.c i) (S.take n) else .ok (.c i) S
  | .ok (.e c x) S => .ok (.e c x) (S.take n)
  | .exc c x S => .exc c x (S.take n)
  | .bad => .bad
@[simp] def ofRS : RS → R W
  | .nx _ S => .ok (.d .non) S
  | .rt w S => .ok w S
  | .exc c x _ S => .exc c x S
  | _ => .bad
def runDef (N ar : Nat) (body : DS) (ws : List W) (S : Sto) : R W := if ws.length = ar then fin S.length (ofRS (body (ws.map some ++ List.replicate (N - ws.length) none) S)) else .bad
theorem cut_le {I : Inf} {S S' : Sto} {M M' : List Addr} {H H' : Hp} (s : Sim I S M H) (l : Le S M H S' M' H') (s' : Sim I S' M' H') : Sim I (S'.take S.length) M H' ∧ Le S M H (S'.take S.length) M H' ∧ M'.take S.length = M := by
  obtain ⟨c1, c2⟩ := s'.cut (n := S.length)
  have e : M'.take S.length = M := by
    obtain ⟨t, rfl⟩ := l.pre
    rw [← s.len, List.take_left]
  rw [e] at c1 c2
  exact ⟨c1, ⟨List.prefix_refl _, l.ex.trans c2⟩, e⟩
theorem fin_end {I : Inf} {S : Sto} {M : List Addr} {H : Hp} {Q : VK} {E : XK} {r : R W} (s : Sim I S M H) (h : EndR I S M H (RepW I) Q E (fin S.length r)) : EndR I S M H (RepW I) Q E r := by
  cases r with
  | bad => exact h
  | exc c x S' =>
    intro cls dd H' M' l s' rx
    obtain ⟨a, b, e⟩ := cut_le s l s'
    refine h cls dd H' M b a (rx.mono ?_)
    have := (s'.cut (n := S.length)).2
    rw [e] at this
    exact this
  | ok w S' =>
    intro v H' M' l s' rw'
    obtain ⟨a, b, e⟩ := cut_le s l s'
    have ex := (s'.cut (n := S.length)).2
    rw [e] at ex
    cases w with
    | d x => exact h v H' M b a (Rep.mono ex rw')
    | e c x =>
      obtain ⟨q, cls, dd, z1, z2, z3⟩ := rw'
      exact h v H' M b a ⟨q, cls, dd, z1, z2, z3.mono ex⟩
    | c i =>
      dsimp only [fin] at h
      split at h
      · rename_i hi
        obtain ⟨q, eq, ev⟩ := rw'
        refine h v H' M b a ⟨q, ?_, ev⟩
        rw [← e, List.getElem?_take, if_pos hi]
        exact eq
      · exact h v H' M' l s' rw'
/-- the slots at the entry -/
theorem slots_start {I : Inf} {M : List Addr} {H : Hp} {N : List Str} {ws : List W} {vs : List V} (r : RepWs I M H ws vs) : Slots I M H (ws.map some ++ List.replicate (N.length - ws.length) none) (L2.start N vs) := by
  have hl := Paired.length r
  refine ⟨by unfold L2.start; simp [hl], fun i w e => ?_⟩
  unfold L2.start
  by_cases hi : i < ws.length
  · rw [List.getElem?_append_left (by simpa using hi), List.getElem?_map] at e
    rw [List.getElem?_append_left (by simpa [← hl] using hi), List.getElem?_map]
    cases q : ws[i]? with
    | none => rw [q] at e; cases e
    | some u =>
      rw [q] at e
      have : u = w := by simpa using e
      subst this
      obtain ⟨v, e1, e2⟩ := paired_get r q
      exact ⟨v, by rw [e1]; rfl, e2⟩
  · rw [List.getElem?_append_right (by simpa using hi)] at e
    rw [List.getElem?_replicate] at e
    split at e
    · simp at e
    · cases e
/-- THE RULE for a def: by its body's reading -/
theorem def_ok {P : Program} {w : World} {K : PySem.W.Frag} {mg : Str → Option Value} {base : Heap} {J : Jn} {xn qual : Str} {st : Stmt} {fa : Addr} {fd : FuncData} {N ps : List Str} {k f n : Nat} {F : FnTab} {body : DS} (hF : Fun K xn qual st fa fd) (S : FnScope N ps (defScope st)) (hn : ps.length = n)
    (he : ∀ ws S, F f ws S = runDef N.length n body ws S)
    (hb : ∀ (cdv : Value) (A : Around) (outer : List PySem.Env) (s : Shared) (H : Hp) (E : XK), Room k (A.deeper (envOfC qual (defScope st) s.heap.objs.size fa cdv)) →
      PSs (cxOf (L2.CX P w) P w K mg base N qual (defScope st) fa cdv A outer s H E) (defBody st) (rdS (J.inf K) (fun cls dd _ H' => E cls dd H') body)) : FnOk P w K mg base (L2.CX P w) (k + 1) fa fd ps (spOf (J.inf K) F f n) := by
  refine hF.okX S (fun vs H Q E h => by rw [hn]; exact h.1) (fun cdv A outer s H vs Q E hr h => ⟨_, hb cdv A outer s H E hr, ?_⟩)
  obtain ⟨hl, ws, St, M, sim, r, p⟩ := h
  rw [he] at p
  unfold runDef at p
  split at p
  · have p := fin_end sim p
    refine ⟨_, St, M, sim, slots_start r, ?_⟩
    generalize body (List.map some ws ++ List.replicate (N.length - ws.length) none) St = rs at p ⊢
    cases rs with
    | nx e S' => exact fun σ' H' M' l s' _ => p .non H' M' l s' .non
    | rt w S' => exact fun v H' M' l s' r' => p v H' M' l s' r'
    | exc c x e S' => exact fun cls dd σ' H' M' l s' _ r' => p cls dd H' M' l s' r'
    | bk e S' => exact p.elim
    | ct e S' => exact p.elim
    | bad => exact p.elim
  · exact p.elim
theorem def_okD {P : Program} {w : World} {K : PySem.W.Frag} {mg : Str → Option Value} {base : Heap} {J : Jn} {xn qual : Str} {params : Arguments} {bd : List Stmt} {sc : Scope} {dvs : List V} {kws : List (Str × V)} {fa : Addr} {fd : FuncData} {N ps : List Str} {k f n : Nat} {F : FnTab} {body : DS} (hF : FunD K xn qual params bd sc dvs kws fa fd) (S : FnScope N ps sc) (hn : ps.length = n)
    (he : ∀ ws S, F f ws S = runDef N.length n body ws S)
    (hb : ∀ (cdv : Value) (A : Around) (outer : List PySem.Env) (s : Shared) (H : Hp) (E : XK), Room k (A.deeper (envOfC qual sc s.heap.objs.size fa cdv)) →
      PSs (cxOf (L2.CX P w) P w K mg base N qual sc fa cdv A outer s H E) bd (rdS (J.inf K) (fun cls dd _ H' => E cls dd H') body)) : FnOk P w K mg base (L2.CX P w) (k + 1) fa fd ps (spOf (J.inf K) F f n) := by
  refine hF.ok S (fun vs H Q E h => by rw [hn]; exact h.1) (fun cdv A outer s H vs Q E hr h => ⟨_, hb cdv A outer s H E hr, ?_⟩)
  obtain ⟨hl, ws, St, M, sim, r, p⟩ := h
  rw [he] at p
  unfold runDef at p
  split at p
  · have p := fin_end sim p
    refine ⟨_, St, M, sim, slots_start r, ?_⟩
    generalize body (List.map some ws ++ List.replicate (N.length - ws.length) none) St = rs at p ⊢
    cases rs with
    | nx e S' => exact fun σ' H' M' l s' _ => p .non H' M' l s' .non
    | rt w S' => exact fun v H' M' l s' r' => p v H' M' l s' r'
    | exc c x e S' => exact fun cls dd σ' H' M' l s' _ r' => p cls dd H' M' l s' r'
    | bk e S' => exact p.elim
    | ct e S' => exact p.elim
    | bad => exact p.elim
  · exact p.elim
/-! ### calls -/
@[simp] def dCall (F : FnTab) (f n : Nat) (a : DA) : DE := fun e S => (a e S).bind fun ws S1 => if ws.length = n then F f ws S1 else .bad
/-- an instance of the class c -/
@[simp] def isC (c : Nat) : W → Sto → Bool
  | .d (.obj c' _), _ => c' == c
  | .c i, S => match S[i]? with
    | some (.ins c' _) => c' == c
    | _ => false
  | _, _ => false
@[simp] def dMeth (F : FnTab) (c f n : Nat) (o : DE) (a : DA) : DE := fun e S => (o e S).bind fun x S1 => if isC c x S1 = true then ((a e S1).bind fun ws S2 => if ws.length + 1 = n then F f (x :: ws) S2 else .bad) else .bad
/-- a new instance that never changes behind its __init__ (nf fields) -/
@[simp] def mkF (Fi : FnTab) (c f n nf : Nat) (ws : List W) (S : Sto) : R W := if ws.length + 1 = n then (match Fi f (.c S.length :: ws) (S ++ [.ins c []]) with
  | .ok (.d .non) S' => match S'[S.length]? with
    | some (.ins c' xs) => match plainL xs with
      | some ds => if c' = c ∧ ds.length = nf then .ok (.d (.obj c ds)) (S'.take S.length) else .bad
      | none => .bad
    | _ => .bad
  | .exc e x S' => .exc e x (S'.take S.length)
  | _ => .bad) else .bad
/-- a new instance that is a cell -/
@[simp] def mkC (Fi : FnTab) (c f n : Nat) (ws : List W) (S : Sto) : R W := if ws.length + 1 = n then (match Fi f (.c S.length :: ws) (S ++ [.ins c []]) with
  | .ok (.d .non) S' => .ok (.c S.length) S'
  | .exc e x S' => .exc e x (S'.take S.length)
  | _ => .bad) else .bad
@[simp] def dMk (g : List W → Sto → R W) (dfl : List D) (a : DA) : DE := fun e S => (a e S).bind fun ws S1 => g (ws ++ dfl.map W.d) S1
section
variable {J : Jn} {X : Cx} {w : WX} {F Fi : FnTab} {k : Nat} {a o e : Expr} {es : List Expr} {da d_o : DE} {dr : DA} {pos p apos : Pos} {x m : Str} {f n c nf : Nat}
theorem sx_call (t : Cok J X w F Fi k) (h : J.sg.nm f = some (x, n)) (ha : PA X (e :: es) (rdA (J.inf X.K) w dr)) (hg : Gl X x := by rfl)
    (hdb : (x == ("__debug__" : Str)) = false := by decide) (he : starEach (e :: es) X.env = (false, eval e X.env) :: starEach es X.env := by rfl) (hpl : (backTo pos (starEach es X.env)).any (·.1) = false := by rfl) :
    PE X (.Call (.Name x p) (e :: es) [] pos) (rdE (J.inf X.K) w (dCall F f n dr)) := by
  obtain ⟨fa, fd, ps, h1, h2, h3, h4⟩ := t.call f x n h
  refine PE_imp (pe_callSD (dvs := []) (E := WE w) h3 t.room hg h1 h2 h4 .nil (fun σ => passAt t.tk σ) ha hdb he hpl) fun σ H Q q => rd_args q fun ws vs e S M H s sl r p => ?_
  split at p
  · rename_i hl
    rw [List.append_nil]
    exact ⟨by rw [← Paired.length r]; exact hl, ws, S, M, s, r, p⟩
  · exact p.elim
theorem sx_call0 (t : Cok J X w F Fi k) (h : J.sg.nm f = some (x, n)) (hg : Gl X x := by rfl)
    (hdb : (x == ("__debug__" : Str)) = false := by decide) : PE X (.Call (.Name x p) [] [] pos) (rdE (J.inf X.K) w (dCall F f n dNil)) := by
  obtain ⟨fa, fd, ps, h1, h2, h3, h4⟩ := t.call f x n h
  refine PE_imp (pe_call0D (dvs := []) (E := WE w) h3 t.room hg h1 h2 h4 .nil (fun σ => passAt t.tk σ) hdb) fun σ H Q q => ?_
  obtain ⟨e, S, M, s, sl, p⟩ := q
  change EndR _ S M H _ Q _ (if ([] : List W).length = n then F f [] S else .bad) at p
  split at p
  · rename_i hl
    exact ⟨hl, [], S, M, s, .nil, p⟩
  · exact p.elim
theorem lookup_zip_none {ks : List Str} {vs : List V} {m : Str} (h : m ∉ ks) : (ks.zip vs).lookup m = none := by
  induction ks generalizing vs with
  | nil => rfl
  | cons k ks ih =>
    cases vs with
    | nil => rfl
    | cons v vs =>
      rw [List.zip_cons_cons, List.lookup_cons]
      have : (m == k) = false := by
        have : m ≠ k := fun q => h (by rw [q]; exact List.mem_cons_self)
        simpa using this
      rw [this]
      exact ih fun z => h (List.mem_cons_of_mem _ z)
/-- the receiver -/
theorem recv_at {I : Inf} {S : Sto} {M : List Addr} {H : Hp} {y : W} {v : V} {c : Nat} (s : Sim I S M H) (r : RepW I M (mask S M H) y v) (h : isC c y S = true) :
    ∃ a C dx vs, v = .ref a ∧ I.G c = some C ∧ H a = some (.ins C dx ((I.fl c).zip vs)) := by
  unfold isC at h
  split at h
  · have h := beq_iff_eq.mp h
    subst h
    cases r with
    | obj g h l q => exact ⟨_, _, _, _, rfl, g, mask_ex _ _ h⟩
  · split at h
    · have h := beq_iff_eq.mp h
      subst h
      obtain ⟨a, ea, rfl⟩ := r
      obtain ⟨C, dx, vs, g, h, l, q⟩ := s.cell _ _ a (by assumption) ea
      exact ⟨a, C, dx, vs, rfl, g, h⟩
    · cases h
  · cases h
theorem sx_meth (t : Cok J X w F Fi k) (h : J.sg.mt f = some (c, m, n)) (hm : m ∉ J.sg.fl c) {pl : Sem Bool} (ho : PE X o (rdE (J.inf X.K) w d_o)) (ha : PA X (e :: es) (rdA (J.inf X.K) w dr))
    (hst : starEach (e :: es) X.env = (false, eval e X.env) :: starEach es X.env := by rfl) (hpl : (backTo pos (starEach es X.env)).any (·.1) = false := by rfl)
    (ht : eval (.Call (.Attribute o m apos) (e :: es) [] pos) X.env = (do
      let ov ← eval o X.env
      standAt apos.atName
      let (f, first) ← holding [ov] (getMethod ov m pl)
      callWith pos f first (backTo pos (starEach (e :: es) X.env)) (backToKw pos (keywordEach [] X.env))) := by rfl) :
    PE X (.Call (.Attribute o m apos) (e :: es) [] pos) (rdE (J.inf X.K) w (dMeth F c f n d_o dr)) := by
  obtain ⟨C, fa, fd, ps, h1, h2, h3, h4⟩ := t.meth f c m n h
  refine PE_imp (pe_methD (dvs := []) (E := WE w) ho (t.cls c C h1) h2 h3 t.room h4 .nil (fun σ => passAt t.tk σ) ha hst hpl ht) fun σ H Q q => rd_one (f := fun e x S1 => if isC c x S1 = true then ((dr e S1).bind fun ws S2 => if ws.length + 1 = n then F f (x :: ws) S2 else .bad) else .bad) q fun y v e S M H s sl r p => ?_
  split at p
  · rename_i hy
    obtain ⟨b, C', dx, vs, rfl, g, hb⟩ := recv_at s r hy
    have : C' = C := by
      have g' : J.G c = some C' := g
      rw [h1] at g'
      exact (Option.some.inj g').symm
    subst this
    refine ⟨b, dx, _, rfl, hb, lookup_zip_none hm, ?_⟩
    refine ⟨e, S, M, s, sl, (EndR.bind (rel1 := RepWs (J.inf X.K)) p).imp fun us H1 ⟨ws, S1, M1, l1, s1, r1, p1⟩ => ?_⟩
    split at p1
    · rename_i hl
      rw [List.append_nil]
      exact ⟨by rw [← hl, Paired.length r1]; rfl, y :: ws, S1, M1, s1, .cons (r.mono l1) r1, p1⟩
    · exact p1.elim
  · exact p.elim
theorem sx_meth0 (t : Cok J X w F Fi k) (h : J.sg.mt f = some (c, m, n)) (hm : m ∉ J.sg.fl c) {pl : Sem Bool} (ho : PE X o (rdE (J.inf X.K) w d_o))
    (ht : eval (.Call (.Attribute o m apos) [] [] pos) X.env = (do
      let ov ← eval o X.env
      standAt apos.atName
      let (f, first) ← holding [ov] (getMethod ov m pl)
      callWith pos f first (backTo pos (starEach [] X.env)) (backToKw pos (keywordEach [] X.env))) := by rfl) :
    PE X (.Call (.Attribute o m apos) [] [] pos) (rdE (J.inf X.K) w (dMeth F c f n d_o dNil)) := by
  obtain ⟨C, fa, fd, ps, h1, h2, h3, h4⟩ := t.meth f c m n h
  refine PE_imp (pe_meth0D (dvs := []) (E := WE w) ho (t.cls c C h1) h2 h3 t.room h4 .nil (fun σ => passAt t.tk σ) ht) fun σ H Q q => rd_one (f := fun e x S1 => if isC c x S1 = true then ((dNil e S1).bind fun ws S2 => if ws.length + 1 = n then F f (x :: ws) S2 else .bad) else .bad) q fun y v e S M H s sl r p => ?_
  split at p
  · rename_i hy
    obtain ⟨b, C', dx, vs, rfl, g, hb⟩ := recv_at s r hy
    have : C' = C := by
      have g' : J.G c = some C' := g
      rw [h1] at g'
      exact (Option.some.inj g').symm
    subst this
    refine ⟨b, dx, _, rfl, hb, lookup_zip_none hm, ?_⟩
    have p1 : EndR (J.inf X.K) S M H (RepW (J.inf X.K)) Q (fun cls dd H' => w cls dd σ H') (if ([] : List W).length + 1 = n then F f [y] S else .bad) := p
    split at p1
    · rename_i hl
      exact ⟨hl, [y], S, M, s, .cons r .nil, p1⟩
    · exact p1.elim
  · exact p.elim
/-- an attribute: of an instance whose class has it at place i -/
@[simp] def attr (c i : Nat) : W → Sto → R W
  | .d (.obj c' xs), S => if c' = c then (match xs[i]? with
    | some x => .ok (.d x) S
    | none => .bad) else .bad
  | .c j, S => match S[j]? with
    | some (.ins c' ws) => if c' = c then (match ws[i]? with
      | some u => .ok u S
      | none => .bad) else .bad
    | _ => .bad
  | _, _ => .bad
@[simp] def dAttr (c i : Nat) (o : DE) : DE := fun e S => (o e S).bind (attr c i)
theorem lookup_zip {ks : List Str} {i : Nat} {m : Str} {v : V} (hn : ks.Nodup) : ∀ {vs : List V}, ks[i]? = some m → vs[i]? = some v → (ks.zip vs).lookup m = some v := by
  induction ks generalizing i with
  | nil => intro vs e; simp at e
  | cons k ks ih =>
    intro vs e1 e2
    cases vs with
    | nil => simp at e2
    | cons u vs =>
      rw [List.zip_cons_cons, List.lookup_cons]
      cases i with
      | zero =>
        simp at e1 e2
        subst e1 e2
        simp
      | succ i =>
        simp at e1 e2
        have hk : (m == k) = false := by
          have : m ≠ k := fun q => (List.nodup_cons.mp hn).1 (by rw [← q]; exact List.mem_of_getElem? e1)
          simpa using this
        rw [hk]
        exact ih (List.nodup_cons.mp hn).2 e1 e2
theorem attr_at {I : Inf} {S : Sto} {M : List Addr} {H : Hp} {y : W} {v : V} {c i : Nat} {Q : VK} {E : XK} {m : Str} (hm : (I.fl c)[i]? = some m) (hn : (I.fl c).Nodup) (s : Sim I S M H) (r : RepW I M (mask S M H) y v) (p : EndR I S M H (RepW I) Q E (attr c i y S)) :
    ∃ a C dx fs u, v = .ref a ∧ I.G c = some C ∧ H a = some (.ins C dx fs) ∧ fs.lookup m = some u ∧ Q u H := by
  unfold attr at p
  split at p
  · split at p
    · rename_i h
      subst h
      split at p
      · rename_i x hx
        cases r with
        | obj g h l q =>
          obtain ⟨u, e1, e2⟩ := q.get hx
          exact ⟨_, _, _, _, u, rfl, g, mask_ex _ _ h, lookup_zip hn hm e1, p.here s e2⟩
      · exact p.elim
    · exact p.elim
  · split at p
    · split at p
      · rename_i h
        subst h
        split at p
        · rename_i x hx
          obtain ⟨a, ea, rfl⟩ := r
          obtain ⟨C, dx, vs, g, h, l, q⟩ := s.cell _ _ a (by assumption) ea
          obtain ⟨u, e1, e2⟩ := paired_get q hx
          exact ⟨_, _, _, _, u, rfl, g, h, lookup_zip hn hm e1, p.here s e2⟩
        · exact p.elim
      · exact p.elim
    · exact p.elim
  · exact p.elim
theorem sx_attr {i : Nat} (t : Cok J X w F Fi k) (hm : (J.sg.fl c)[i]? = some m) (hn : (J.sg.fl c).Nodup) (ho : PE X o (rdE (J.inf X.K) w d_o)) (hb : attributeBase o m X.env (eval o X.env) = eval o X.env := by rfl) :
    PE X (.Attribute o m pos) (rdE (J.inf X.K) w (dAttr c i d_o)) :=
  PE_imp (pe_fld ho hb) fun σ H Q q => rd_one (f := fun _ x S1 => attr c i x S1) q fun y v e S M H s sl r p => by
    obtain ⟨a, C, dx, fs, u, e1, g, e2, e3, e4⟩ := attr_at hm hn s r p
    exact ⟨a, C, dx, fs, u, e1, e2, t.cls c C g, t.nat c C m g (List.mem_of_getElem? hm), e3, e4⟩
/-- a new instance: the heap, the store -/
theorem made_sim {I : Inf} {S : Sto} {M : List Addr} {H : Hp} {x dx C : Addr} {c : Nat} (s : Sim I S M H) (g : I.G c = some C) (nx : H x = none) (nd : H dx = none) (ne : dx ≠ x) :
    Sim I (S ++ [.ins c []]) (M ++ [x]) (upd (upd H dx (.own x)) x (.ins C dx [])) ∧ Le S M H (S ++ [.ins c []]) (M ++ [x]) (upd (upd H dx (.own x)) x (.ins C dx [])) := by
  obtain ⟨s1, l1⟩ := s.new (o := .own x) nd
  obtain ⟨s2, l2⟩ := s1.newC (p := x) (o := .ins C dx []) (c := .ins c []) (by rw [upd_ne (Ne.symm ne)]; exact nx) (fun w m => by cases m) ⟨C, dx, [], g, by simp, Nat.zero_le _, .nil⟩ (by intro z; cases z)
  exact ⟨s2, l1.trans l2⟩
theorem mkF_end {I : Inf} {S : Sto} {M : List Addr} {H : Hp} {Q : VK} {E : XK} {x dx C : Addr} {c f n nf : Nat} {ws : List W} {vs : List V} (hnf : (I.fl c).length = nf) (s : Sim I S M H) (r : RepWs I M (mask S M H) ws vs) (g : I.G c = some C) (p : EndR I S M H (RepW I) Q E (mkF Fi c f n nf ws S))
    (nx : H x = none) (nd : H dx = none) (ne : dx ≠ x) : spOf I Fi f n (.ref x :: vs) (upd (upd H dx (.own x)) x (.ins C dx [])) (fun v H2 => v = .non ∧ Q (.ref x) H2) E := by
  obtain ⟨s2, l2⟩ := made_sim s g nx nd ne
  unfold mkF at p
  split at p
  · rename_i hl
    refine ⟨by rw [← hl, Paired.length r]; rfl, .c S.length :: ws, _, _, s2, .cons ⟨x, ?_, rfl⟩ (RepWs.mono l2 r), ?_⟩
    · rw [List.getElem?_append_right (by rw [s.len]; exact Nat.le_refl _), s.len, Nat.sub_self]
      rfl
    have hM : M.length = S.length := s.len
    generalize Fi f (.c S.length :: ws) (S ++ [.ins c []]) = rr at p ⊢
    cases rr with
    | bad => exact p
    | exc e d S' =>
      intro cls dd H' M' l' s' rx
      obtain ⟨a, b, e'⟩ := cut_le s (l2.trans l') s'
      refine p cls dd H' M b a (rx.mono ?_)
      have := (s'.cut (n := S.length)).2
      rw [e'] at this
      exact this
    | ok w S' =>
      cases w with
      | c i => exact p.elim
      | e _ _ => exact p.elim
      | d dd =>
        cases dd <;> try exact p.elim
        intro v H' M' l' s' rv
        cases rv
        dsimp only at p
        split at p
        · rename_i c' xs hc
          split at p
          · rename_i ds hds
            split at p
            · rename_i hh
              obtain ⟨rfl, hlen⟩ := hh
              obtain ⟨a, b, e'⟩ := cut_le s (l2.trans l') s'
              refine ⟨rfl, p (.ref x) H' M b a ?_⟩
              have hx : M'[S.length]? = some x := by
                refine pre_get l'.pre ?_
                rw [List.getElem?_append_right (by rw [s.len]; exact Nat.le_refl _), s.len, Nat.sub_self]
                rfl
              obtain ⟨C', dx', vs', g', ho, hle, q⟩ := s'.cell _ _ x hc hx
              have rr := plainL_rep q hds
              have exm := (s'.cut (n := S.length)).2
              rw [e'] at exm
              refine .obj g' (mask_some.mpr ⟨fun ⟨j, k, z1, _, _⟩ => s.fresh nx (List.mem_of_getElem? z1), ho⟩) ?_ (rr.mono exm)
              rw [← rr.len, hlen, hnf]
            · exact p.elim
          · exact p.elim
        · exact p.elim
  · exact p.elim
theorem mkC_end {I : Inf} {S : Sto} {M : List Addr} {H : Hp} {Q : VK} {E : XK} {x dx C : Addr} {c f n : Nat} {ws : List W} {vs : List V} (s : Sim I S M H) (r : RepWs I M (mask S M H) ws vs) (g : I.G c = some C) (p : EndR I S M H (RepW I) Q E (mkC Fi c f n ws S))
    (nx : H x = none) (nd : H dx = none) (ne : dx ≠ x) : spOf I Fi f n (.ref x :: vs) (upd (upd H dx (.own x)) x (.ins C dx [])) (fun v H2 => v = .non ∧ Q (.ref x) H2) E := by
  obtain ⟨s2, l2⟩ := made_sim s g nx nd ne
  have hx0 : (M ++ [x])[S.length]? = some x := by
    rw [List.getElem?_append_right (by rw [s.len]; exact Nat.le_refl _), s.len, Nat.sub_self]
    rfl
  unfold mkC at p
  split at p
  · rename_i hl
    refine ⟨by rw [← hl, Paired.length r]; rfl, .c S.length :: ws, _, _, s2, .cons ⟨x, hx0, rfl⟩ (RepWs.mono l2 r), ?_⟩
    generalize Fi f (.c S.length :: ws) (S ++ [.ins c []]) = rr at p ⊢
    cases rr with
    | bad => exact p
    | exc e d S' =>
      intro cls dd H' M' l' s' rx
      obtain ⟨a, b, e'⟩ := cut_le s (l2.trans l') s'
      refine p cls dd H' M b a (rx.mono ?_)
      have := (s'.cut (n := S.length)).2
      rw [e'] at this
      exact this
    | ok w S' =>
      cases w with
      | c i => exact p.elim
      | e _ _ => exact p.elim
      | d dd =>
        cases dd <;> try exact p.elim
        intro v H' M' l' s' rv
        cases rv
        exact ⟨rfl, p (.ref x) H' M' (l2.trans l') s' ⟨x, pre_get l'.pre hx0, rfl⟩⟩
  · exact p.elim
theorem RepWs.app {I : Inf} {M : List Addr} {H : Hp} : ∀ {a b : List W} {u v : List V}, RepWs I M H a u → RepWs I M H b v → RepWs I M H (a ++ b) (u ++ v)
  | _, _, _, _, .nil, s => s
  | _, _, _, _, .cons r t, s => .cons r (RepWs.app t s)
theorem reps_scal {I : Inf} {H : Hp} {M : List Addr} : ∀ {ds : List D} {vs : List V}, (∀ H, Reps I H ds vs) → RepWs I M H (ds.map W.d) vs := fun h => reps_map (h _)
theorem sx_mkF {dfl : List D} {dvs : List V} {dfs : List (List V)} (t : Cok J X w F Fi k) (h : J.sg.ini c = some (x, f, n, dfs)) (hd : dvs ∈ dfs) (hr : ∀ H, Reps (J.inf X.K) H dfl dvs) (hnf : (J.sg.fl c).length = nf) (ha : PA X (e :: es) (rdA (J.inf X.K) w dr)) (hg : Gl X x := by rfl)
    (hdb : (x == ("__debug__" : Str)) = false := by decide) (he : starEach (e :: es) X.env = (false, eval e X.env) :: starEach es X.env := by rfl) (hpl : (backTo pos (starEach es X.env)).any (·.1) = false := by rfl) :
    PE X (.Call (.Name x p) (e :: es) [] pos) (rdE (J.inf X.K) w (dMk (mkF Fi c f n nf) dfl dr)) := by
  obtain ⟨C, fa, fd, ps, h1, h2, h3, h4, h5⟩ := t.make c x f n dfs h
  obtain ⟨ds, h6, h7⟩ := h5 dvs hd
  exact PE_imp (pe_makeD (dvs := dvs) (E := WE w) h3 h4 t.room hg h2 h7 h6 (fun σ => passAt t.tk σ) ha hdb he hpl) fun σ H Q q => rd_args (f := fun ws S1 => mkF Fi c f n nf (ws ++ dfl.map W.d) S1) q fun ws vs e S M H s sl r p y dy ny nd ne =>
    mkF_end hnf s (RepWs.app r (reps_scal hr)) h1 p ny nd ne
theorem sx_mkF0 {dfl : List D} {dvs : List V} {dfs : List (List V)} (t : Cok J X w F Fi k) (h : J.sg.ini c = some (x, f, n, dfs)) (hd : dvs ∈ dfs) (hr : ∀ H, Reps (J.inf X.K) H dfl dvs) (hnf : (J.sg.fl c).length = nf) (hg : Gl X x := by rfl)
    (hdb : (x == ("__debug__" : Str)) = false := by decide) : PE X (.Call (.Name x p) [] [] pos) (rdE (J.inf X.K) w (dMk (mkF Fi c f n nf) dfl dNil)) := by
  obtain ⟨C, fa, fd, ps, h1, h2, h3, h4, h5⟩ := t.make c x f n dfs h
  obtain ⟨ds, h6, h7⟩ := h5 dvs hd
  refine PE_imp (pe_make0D (dvs := dvs) (E := WE w) h3 h4 t.room hg h2 h7 h6 (fun σ => passAt t.tk σ) hdb) fun σ H Q q => ?_
  obtain ⟨e, S, M, s, sl, p⟩ := q
  exact fun y dy ny nd ne => mkF_end hnf s (RepWs.app .nil (reps_scal hr)) h1 p ny nd ne
theorem sx_mkC {dfl : List D} {dvs : List V} {dfs : List (List V)} (t : Cok J X w F Fi k) (h : J.sg.ini c = some (x, f, n, dfs)) (hd : dvs ∈ dfs) (hr : ∀ H, Reps (J.inf X.K) H dfl dvs) (ha : PA X (e :: es) (rdA (J.inf X.K) w dr)) (hg : Gl X x := by rfl)
    (hdb : (x == ("__debug__" : Str)) = false := by decide) (he : starEach (e :: es) X.env = (false, eval e X.env) :: starEach es X.env := by rfl) (hpl : (backTo pos (starEach es X.env)).any (·.1) = false := by rfl) :
    PE X (.Call (.Name x p) (e :: es) [] pos) (rdE (J.inf X.K) w (dMk (mkC Fi c f n) dfl dr)) := by
  obtain ⟨C, fa, fd, ps, h1, h2, h3, h4, h5⟩ := t.make c x f n dfs h
  obtain ⟨ds, h6, h7⟩ := h5 dvs hd
  exact PE_imp (pe_makeD (dvs := dvs) (E := WE w) h3 h4 t.room hg h2 h7 h6 (fun σ => passAt t.tk σ) ha hdb he hpl) fun σ H Q q => rd_args (f := fun ws S1 => mkC Fi c f n (ws ++ dfl.map W.d) S1) q fun ws vs e S M H s sl r p y dy ny nd ne =>
    mkC_end s (RepWs.app r (reps_scal hr)) h1 p ny nd ne
theorem sx_mkC0 {dfl : List D} {dvs : List V} {dfs : List (List V)} (t : Cok J X w F Fi k) (h : J.sg.ini c = some (x, f, n, dfs)) (hd : dvs ∈ dfs) (hr : ∀ H, Reps (J.inf X.K) H dfl dvs) (hg : Gl X x := by rfl)
    (hdb : (x == ("__debug__" : Str)) = false := by decide) : PE X (.Call (.Name x p) [] [] pos) (rdE (J.inf X.K) w (dMk (mkC Fi c f n) dfl dNil)) := by
  obtain ⟨C, fa, fd, ps, h1, h2, h3, h4, h5⟩ := t.make c x f n dfs h
  obtain ⟨ds, h6, h7⟩ := h5 dvs hd
  refine PE_imp (pe_make0D (dvs := dvs) (E := WE w) h3 h4 t.room hg h2 h7 h6 (fun σ => passAt t.tk σ) hdb) fun σ H Q q => ?_
  obtain ⟨e, S, M, s, sl, p⟩ := q
  exact fun y dy ny nd ne => mkC_end s (RepWs.app .nil (reps_scal hr)) h1 p ny nd ne
end
end Py

/-! Py6: tests, built-in functions, slices. -/
namespace Py
open PySem PySem.Spec PyProof.Rows L2
/-! ### tests -/
@[simp] def tru : W → Sto → R Bool
  | .d .non, S => .ok false S
  | .d (.bl b), S => .ok b S
  | .d (.int i), S => .ok (i != 0) S
  | .d (.str x), S => if x.length ≤ sizeLine then .ok ((x.length : Int) != 0) S else .bad
  | .d (.tup xs), S => .ok (!xs.isEmpty) S
  | .d (.lst xs), S => .ok (!xs.isEmpty) S
  | .d (.lsx xs), S => .ok (!xs.isEmpty) S
  | .c i, S => match S[i]? with
    | some (.lst ws) => .ok (!ws.isEmpty) S
    | _ => .bad
  | _, _ => .bad
/-- .. where the instances of the class c have their own __bool__ -/
@[simp] def truO (F : FnTab) (c f : Nat) : W → Sto → R Bool
  | .d (.obj c' xs), S => if c' = c then (match F f [.d (.obj c' xs)] S with
    | .ok (.d (.bl b)) S' => .ok b S'
    | _ => .bad) else .bad
  | x, S => tru x S
@[simp] def dTr (g : W → Sto → R Bool) (a : DE) : DT := fun e S => (a e S).bind g
@[simp] def dTb (a : DE) : DT := fun e S => (a e S).bind fun x S1 => match x with
  | .d (.bl b) => .ok b S1
  | _ => .bad
@[simp] def dAnd (a b : DT) : DT := fun e S => (a e S).bind fun c S1 => if c = true then b e S1 else .ok false S1
@[simp] def dOr (a b : DT) : DT := fun e S => (a e S).bind fun c S1 => if c = true then .ok true S1 else b e S1
@[simp] def dNot (a : DT) : DT := fun e S => (a e S).bind fun c S1 => .ok (!c) S1
/-- as values: bools alone -/
@[simp] def dAndV (a b : DE) : DE := fun e S => (a e S).bind fun x S1 => match x with
  | .d (.bl c) => if c = true then b e S1 else .ok (.d (.bl false)) S1
  | _ => .bad
@[simp] def dOrV (a b : DE) : DE := fun e S => (a e S).bind fun x S1 => match x with
  | .d (.bl c) => if c = true then .ok (.d (.bl true)) S1 else b e S1
  | _ => .bad
@[simp] def dNotV (a : DE) : DE := fun e S => (a e S).bind fun x S1 => match x with
  | .d (.bl c) => .ok (.d (.bl (!c))) S1
  | _ => .bad
@[simp] def dIf (t : DT) (a b : DE) : DE := fun e S => (t e S).bind fun c S1 => if c = true then a e S1 else b e S1
@[simp] def dChain (f g : W → W → Sto → R W) (a b c : DE) : DE := fun e S => (a e S).bind fun x S1 => (b e S1).bind fun y S2 => (f x y S2).ne.bind fun z S3 => match z with
  | .d (.bl k) => if k = true then ((c e S3).bind fun u S4 => (g y u S4).ne) else .ok (.d (.bl false)) S3
  | _ => .bad
section
variable {J : Jn} {X : Cx} {I : Inf} {w : WX} {F Fi : FnTab} {k : Nat} {a b c : Expr} {rest : List Expr} {da db dc : DE} {ta tb : DT} {pos : Pos}
def rdTru (I : Inf) (g : W → Sto → R Bool) : V → Hp → (Bool → Hp → Prop) → Prop := fun v H Q => ∃ (x : W) (S : Sto) (M : List Addr), Sim I S M H ∧ RepW I M (mask S M H) x v ∧ EndR I S M H (fun _ _ a b => a = b) Q E0 (g x S)
theorem tru_plain {pins : List (Addr × Obj)} {s : Shared} {σ : L2.St} {H : Hp} {v : V} {u : Value} {Q : Bool → Hp → Prop} (In : Inv X pins σ H s) (rv : RelV v u) {x : W} {S : Sto} {M : List Addr} (sim : Sim ⟨X.K, I.G, I.fl, I.X, I.ex⟩ S M H) (rx : RepW ⟨X.K, I.G, I.fl, I.X, I.ex⟩ M (mask S M H) x v)
    (p : EndR ⟨X.K, I.G, I.fl, I.X, I.ex⟩ S M H (fun _ _ a b => a = b) Q E0 (tru x S)) : wpAny (model X.prog X.w) X.A (truthy u) (TP X pins σ Q) X.xe s := by
  have emp : ∀ {α β : Type} {xs : List α} {ys : List β}, xs.length = ys.length → (!xs.isEmpty) = (!ys.isEmpty) := fun {α β xs ys} h => by
    cases xs <;> cases ys <;> simp at h <;> rfl
  unfold tru at p
  split at p
  · cases rx
    exact tru_ok pins s σ H _ u Q In rv ⟨_, rfl, p.here sim rfl⟩
  · cases rx
    exact tru_ok pins s σ H _ u Q In rv ⟨_, rfl, p.here sim rfl⟩
  · cases rx
    exact tru_ok pins s σ H _ u Q In rv ⟨_, rfl, p.here sim rfl⟩
  · split at p
    · cases rx
      exact tru_ok pins s σ H _ u Q In rv ⟨_, ⟨by assumption, rfl⟩, p.here sim rfl⟩
    · exact p.elim
  · cases rx with
    | tup h r => exact tru_ok pins s σ H _ u Q In rv ⟨_, .inr (.inl ⟨_, ex_t mask_ex h, rfl⟩), by rw [← emp r.len]; exact p.here sim rfl⟩
  · cases rx with
    | lst h r => exact tru_ok pins s σ H _ u Q In rv ⟨_, .inl ⟨_, .inl (.inl (mask_ex _ _ h)), rfl⟩, by rw [← emp r.len]; exact p.here sim rfl⟩
  · cases rx with
    | lsx h r => exact tru_ok pins s σ H _ u Q In rv ⟨_, .inl ⟨_, ex_l mask_ex h, rfl⟩, by rw [← emp r.len]; exact p.here sim rfl⟩
  · split at p
    · obtain ⟨a, ea, rfl⟩ := rx
      obtain ⟨vs, ho, q⟩ := sim.cell _ _ a (by assumption) ea
      exact tru_ok pins s σ H _ u Q In rv ⟨_, .inl ⟨_, .inl (.inl ho), rfl⟩, by rw [← emp (Paired.length q)]; exact p.here sim rfl⟩
    · exact p.elim
  · exact p.elim
theorem tr_plain : TruR X (rdTru ⟨X.K, I.G, I.fl, I.X, I.ex⟩ tru) := fun pins s σ H v u Q In rv ⟨x, S, M, sim, rx, p⟩ => tru_plain In rv sim rx p
theorem pt_tru {r : V → Hp → (Bool → Hp → Prop) → Prop} {t : TE} (hr : TruR X r) (ha : PE X a t) (he : ∀ whole, isTrue a X.env whole = (do let v ← whole; standAt a.pos; holding [v] (truthy v))) :
    PT X a (fun σ H Q => t σ H fun x H' => r x H' Q) := by
  refine ⟨fun pins s σ H Q I h => ?_⟩
  exact isTrue_plain (thn (ha.run pins s σ H _ I h) fun v s1 ⟨x, H1, I1, r1, q1⟩ => hr pins s1 σ H1 x v Q I1 r1 q1) (he _)
theorem noE {α β : Type} {S : Sto} {M : List Addr} {H : Hp} {rel : List Addr → Hp → α → β → Prop} {Q : β → Hp → Prop} {E E' : XK} {r : R α} (hr : r = r.ne) (h : EndR I S M H rel Q E r) : EndR I S M H rel Q E' r := by
  rw [hr] at h ⊢
  cases r with
  | ok a S' => exact h
  | exc c x S' => exact h.elim
  | bad => exact h
theorem tru_ne (x : W) (S : Sto) : tru x S = (tru x S).ne := by
  unfold tru
  repeat' split
  all_goals rfl
theorem truO_ne (F : FnTab) (c f : Nat) (x : W) (S : Sto) : truO F c f x S = (truO F c f x S).ne := by
  unfold truO
  split
  · split
    · split <;> rfl
    · rfl
  · exact tru_ne x S
theorem st_tr {g : W → Sto → R Bool} (hg : ∀ x S, g x S = (g x S).ne) (hr : TruR X (rdTru I g)) (ha : PE X a (rdE I w da)) (he : ∀ whole, isTrue a X.env whole = (do let v ← whole; standAt a.pos; holding [v] (truthy v)) := by intro _; rfl) : PT X a (rdT I w (dTr g da)) :=
  PT_imp (pt_tru hr ha he) fun σ H Q q => rd_one (f := fun _ x S1 => g x S1) q fun x v e S M H s sl r p => ⟨x, S, M, s, r, noE (hg x S) p⟩
/-- an expression that gives a bool, by pt_val or a comparison -/
theorem st_val (ha : PE X a (rdE I w da)) (he : ∀ whole, isTrue a X.env whole = (do let v ← whole; standAt a.pos; holding [v] (truthy v)) := by intro _; rfl) : PT X a (rdT I w (dTb da)) :=
  PT_imp (pt_val ha he) fun σ H Q q => rd_one (f := fun _ x S1 => match x with
  | .d (.bl b) => .ok b S1
  | _ => .bad) q fun x v e S M H s sl r p => by
    split at p
    · cases r
      exact ⟨_, rfl, p.here s rfl⟩
    · exact p.elim
theorem st_cmp {op : CmpOp} {f : W → W → Sto → R W} (ho : OpR X (compareOp op) (rdOp I f)) (ha : PE X a (rdE I w da)) (hb : PE X b (rdE I w db)) (hm : behindInMarks op b = false := by first | exact nomark _ | rfl) : PT X (.Compare a [op] [b] pos) (rdT I w (dTb (dOp f da db))) :=
  PT_imp (pt_cmpR ho ha hb hm) fun σ H Q q => by
    refine rd_two (rel := fun _ _ a b => a = b) (f := fun x y S2 => (f x y S2).ne.bind fun z S3 => match z with
      | .d (.bl b) => .ok b S3
      | _ => .bad) (Q := Q) ?_ fun x y v u S M H s rx ry p => ?_
    · obtain ⟨e, S, M, s, sl, p⟩ := q
      refine ⟨e, S, M, s, sl, ?_⟩
      dsimp only [dTb, dOp] at p
      generalize da e S = r1 at p ⊢
      cases r1 with
      | ok a1 S1 =>
        dsimp only [R.bind] at p ⊢
        generalize db e S1 = r2 at p ⊢
        cases r2 with
        | ok a2 S2 => exact p
        | exc c x S' => exact p
        | bad => exact p
      | exc c x S' => exact p
      | bad => exact p
    · refine ⟨x, y, S, M, s, rx, ry, ?_⟩
      have p := (EndR.bind (rel1 := RepW I) p).ne (E' := E0)
      refine p.imp fun z H' ⟨d, S1, M1, l1, s1, r1, p1⟩ => ?_
      split at p1
      · cases r1
        exact ⟨_, rfl, p1.here s1 rfl⟩
      · exact p1.elim
theorem st_and1 (ha : PT X a (rdT I w ta)) : PW X (.BoolOp .And [a] pos) (rdT I w ta) := pw_and1 ha
theorem st_or1 (ha : PT X a (rdT I w ta)) : PW X (.BoolOp .Or [a] pos) (rdT I w ta) := pw_or1 ha
theorem rdT_one {α β : Type} {rel : List Addr → Hp → α → β → Prop} {σ : L2.St} {H : Hp} {Q : β → Hp → Prop} {f : Env → Bool → Sto → R α} {P : Bool → Hp → Prop}
    (h : ∃ (env : Env) (S : Sto) (M : List Addr), Sim I S M H ∧ Slots I M (mask S M H) env σ ∧ EndR I S M H rel Q (fun cls dd H' => w cls dd σ H') ((ta env S).bind fun x S1 => f env x S1))
    (k : ∀ (x : Bool) (env : Env) (S : Sto) (M : List Addr) (H : Hp), Sim I S M H → Slots I M (mask S M H) env σ → EndR I S M H rel Q (fun cls dd H' => w cls dd σ H') (f env x S) → P x H) :
    rdT I w ta σ H P := by
  obtain ⟨e, S, M, sim, sl, p⟩ := h
  refine ⟨e, S, M, sim, sl, (EndR.bind (rel1 := fun _ _ a b => a = b) p).imp fun v H1 ⟨x, S1, M1, l1, s1, r1, p1⟩ => ?_⟩
  subst r1
  exact k x e S1 M1 H1 s1 (sl.mono l1) p1
theorem st_and (ha : PT X a (rdT I w ta)) (hb : PW X (.BoolOp .And (b :: rest) pos) (rdT I w tb)) : PW X (.BoolOp .And (a :: b :: rest) pos) (rdT I w (dAnd ta tb)) :=
  PW_imp (pw_and ha hb) fun σ H Q q => rdT_one (f := fun e c S1 => if c = true then tb e S1 else .ok false S1) q fun x e S M H s sl p => by
    split at p
    · rename_i h
      rw [if_pos h]
      exact ⟨e, S, M, s, sl, p⟩
    · rename_i h
      rw [if_neg h]
      exact p.here s rfl
theorem st_or (ha : PT X a (rdT I w ta)) (hb : PW X (.BoolOp .Or (b :: rest) pos) (rdT I w tb)) : PW X (.BoolOp .Or (a :: b :: rest) pos) (rdT I w (dOr ta tb)) :=
  PW_imp (pw_or ha hb) fun σ H Q q => rdT_one (f := fun e c S1 => if c = true then .ok true S1 else tb e S1) q fun x e S M H s sl p => by
    split at p
    · rename_i h
      rw [if_pos h]
      exact p.here s rfl
    · rename_i h
      rw [if_neg h]
      exact ⟨e, S, M, s, sl, p⟩
theorem st_not (ha : PT X a (rdT I w ta)) : PT X (.UnaryOp .Not a pos) (rdT I w (dNot ta)) :=
  PT_imp (pt_not ha) fun σ H Q q => rdT_one (f := fun _ c S1 => .ok (!c) S1) q fun x e S M H s sl p => p.here s rfl
theorem sx_one {op : BoolOp} {t : TE} (h : PE X a t) : PE X (.BoolOp op [a] pos) t := pe_one h
theorem sx_and (ha : PE X a (rdE I w da)) (hb : PE X (.BoolOp .And (b :: rest) pos) (rdE I w db)) : PE X (.BoolOp .And (a :: b :: rest) pos) (rdE I w (dAndV da db)) :=
  PE_imp (pe_and ha hb) fun σ H Q q => rd_one (f := fun e x S1 => match x with
  | .d (.bl c) => if c = true then db e S1 else .ok (.d (.bl false)) S1
  | _ => .bad) q fun x v e S M H s sl r p => by
    split at p
    · cases r
      refine ⟨_, rfl, ?_⟩
      split at p
      · rename_i h
        rw [if_pos h]
        exact ⟨e, S, M, s, sl, p⟩
      · rename_i h
        rw [if_neg h]
        exact p.here s (.bl _)
    · exact p.elim
theorem sx_or (ha : PE X a (rdE I w da)) (hb : PE X (.BoolOp .Or (b :: rest) pos) (rdE I w db)) : PE X (.BoolOp .Or (a :: b :: rest) pos) (rdE I w (dOrV da db)) :=
  PE_imp (pe_or ha hb) fun σ H Q q => rd_one (f := fun e x S1 => match x with
  | .d (.bl c) => if c = true then .ok (.d (.bl true)) S1 else db e S1
  | _ => .bad) q fun x v e S M H s sl r p => by
    split at p
    · cases r
      refine ⟨_, rfl, ?_⟩
      split at p
      · rename_i h
        rw [if_pos h]
        exact p.here s (.bl _)
      · rename_i h
        rw [if_neg h]
        exact ⟨e, S, M, s, sl, p⟩
    · exact p.elim
theorem sx_not (ha : PE X a (rdE I w da)) : PE X (.UnaryOp .Not a pos) (rdE I w (dNotV da)) :=
  PE_imp (pe_not ha) fun σ H Q q => rd_one (rel := RepW I) (f := fun _ x S1 => match x with
  | .d (.bl c) => .ok (W.d (D.bl (!c))) S1
  | _ => .bad) q fun x v e S M H s sl r p => by
    split at p
    · cases r
      exact ⟨_, rfl, p.here s (.bl _)⟩
    · exact p.elim
theorem sx_if (hc : PT X c (rdT I w ta)) (ha : PE X a (rdE I w da)) (hb : PE X b (rdE I w db)) : PE X (.IfExp c a b pos) (rdE I w (dIf ta da db)) :=
  PE_imp (pe_ifExp hc ha hb) fun σ H Q q => rdT_one (f := fun e c S1 => if c = true then da e S1 else db e S1) q fun x e S M H s sl p => by
    split at p
    · rename_i h
      rw [if_pos h]
      exact ⟨e, S, M, s, sl, p⟩
    · rename_i h
      rw [if_neg h]
      exact ⟨e, S, M, s, sl, p⟩
theorem sx_chain {op op' : CmpOp} {f g : W → W → Sto → R W} (ho : OpR X (compareOp op) (rdOp I f)) (ho' : OpR X (compareOp op') (rdOp I g)) (ha : PE X a (rdE I w da)) (hb : PE X b (rdE I w db)) (hc : PE X c (rdE I w dc))
    (hm : lastMarks [op, op'] [b, c] = false := by with_unfolding_all rfl) : PE X (.Compare a [op, op'] [b, c] pos) (rdE I w (dChain f g da db dc)) :=
  PE_imp (pe_chain ho ho' ha hb hc hm) fun σ H Q q => by
    obtain ⟨e, S, M, sim, sl, p⟩ := q
    refine ⟨e, S, M, sim, sl, (EndR.bind (rel1 := RepW I) p).imp fun v H1 ⟨x, S1, M1, l1, s1, r1, p1⟩ => ?_⟩
    refine ⟨e, S1, M1, s1, sl.mono l1, (EndR.bind (rel1 := RepW I) p1).imp fun u H2 ⟨y, S2, M2, l2, s2, r2, p2⟩ => ?_⟩
    refine ⟨x, y, S2, M2, s2, r1.mono l2, r2, ((EndR.bind (rel1 := RepW I) p2).ne (E' := E0)).imp fun z H3 ⟨d, S3, M3, l3, s3, r3, p3⟩ => ?_⟩
    split at p3
    · cases r3
      refine ⟨_, rfl, ?_⟩
      split at p3
      · rename_i h
        rw [if_pos h]
        refine ⟨e, S3, M3, s3, ((sl.mono l1).mono l2).mono l3, (EndR.bind (rel1 := RepW I) p3).imp fun u4 H4 ⟨z4, S4, M4, l4, s4, r4, p4⟩ => ?_⟩
        exact ⟨y, z4, S4, M4, s4, (r2.mono l3).mono l4, r4, p4.ne⟩
      · rename_i h
        rw [if_neg h]
        exact p3.here s3 (.bl _)
    · exact p3.elim
end
end Py

/-! Py7: built-in functions, isinstance, slices, operators of one's own. -/
namespace Py
open PySem PySem.Spec PyProof.Rows L2
@[simp] def dB (g : List W → Sto → R W) (a : DA) : DE := fun e S => (a e S).bind fun ws S1 => (g ws S1).ne
@[simp] def gLen : List W → Sto → R W
  | [.d (.str x)], S => if x.length ≤ sizeLine then .ok (.d (.int x.length)) S else .bad
  | [x], S => match seqOf x S with
    | some ws => .ok (.d (.int ws.length)) S
    | none => .bad
  | _, _ => .bad
@[simp] def gAbs : List W → Sto → R W
  | [.d (.int i)], S => .ok (.d (.int (if i < 0 then -i else i))) S
  | _, _ => .bad
@[simp] def gMax2 : List W → Sto → R W
  | [.d (.int i), .d (.int j)], S => .ok (.d (.int (if j > i then j else i))) S
  | _, _ => .bad
@[simp] def gMin2 : List W → Sto → R W
  | [.d (.int i), .d (.int j)], S => .ok (.d (.int (if j < i then j else i))) S
  | _, _ => .bad
@[simp] def gInt : List W → Sto → R W
  | [.d (.int i)], S => .ok (.d (.int i)) S
  | [.d (.bl b)], S => .ok (.d (.int (if b then 1 else 0))) S
  | _, _ => .bad
@[simp] def gStr : List W → Sto → R W
  | [.d (.int i)], S => if i.natAbs.log2 < 1920 then .ok (.d (.str (toString i : String))) S else .bad
  | _, _ => .bad
/-- what a list holds -/
@[simp] def lsOf : W → Sto → Option (List W)
  | .d (.lst xs), _ => some (xs.map W.d)
  | .d (.lsx xs), _ => some (xs.map W.d)
  | .c i, S => match S[i]? with
    | some (.lst ws) => some ws
    | _ => none
  | _, _ => none
@[simp] def gTuple : List W → Sto → R W
  | [.d (.tup xs)], S => .ok (.d (.tup xs)) S
  | [x], S => match lsOf x S with
    | some ws => match plainL ws with
      | some xs => .ok (.d (.tup xs)) S
      | none => .bad
    | none => .bad
  | _, _ => .bad
@[simp] def gList : List W → Sto → R W
  | [x], S => match seqOf x S with
    | some ws => match plainL ws with
      | some xs => .ok (.d (.lst xs)) S
      | none => .bad
    | none => .bad
  | _, _ => .bad
@[simp] def gListC : List W → Sto → R W
  | [x], S => match seqOf x S with
    | some ws => .ok (.c S.length) (S ++ [.lst ws])
    | none => .bad
  | _, _ => .bad
section
variable {J : Jn} {X : Cx} {I : Inf} {w : WX} {F Fi : FnTab} {k : Nat} {a b c e : Expr} {es rest : List Expr} {da db dc : DE} {dr : DA} {pos p : Pos} {x : Str} {id T : String}
def rdCall (I : Inf) (g : List W → Sto → R W) : List V → Hp → VK → Prop := fun vs H Q => ∃ (ws : List W) (S : Sto) (M : List Addr), Sim I S M H ∧ RepWs I M (mask S M H) ws vs ∧ EndR I S M H (RepW I) Q E0 (g ws S)
theorem sx_fn {g : List W → Sto → R W} (hc : CallR X (.builtin id) (rdCall (J.inf X.K) g)) (t : Cok J X w F Fi k) (hb : J.sg.blt x = true) (hv : bootBuiltins x = some (.builtin id)) (ha : PA X (e :: es) (rdA (J.inf X.K) w dr)) (hg : Gl X x := by rfl) (hn : x ≠ "__name__" := by decide) (hdb : (x == ("__debug__" : Str)) = false := by decide)
    (he : starEach (e :: es) X.env = (false, eval e X.env) :: starEach es X.env := by rfl) (hpl : (backTo pos (starEach es X.env)).any (·.1) = false := by rfl) : PE X (.Call (.Name x p) (e :: es) [] pos) (rdE (J.inf X.K) w (dB g dr)) :=
  PE_imp (pe_callB hc hg (t.glb x hb) hv ha hn hdb he hpl) fun σ H Q q => rd_args (f := fun ws S1 => (g ws S1).ne) q fun ws vs e S M H s sl r p => ⟨ws, S, M, s, r, p.ne⟩
theorem sx_ty {g : List W → Sto → R W} (hc : CallR X (.type T) (rdCall (J.inf X.K) g)) (t : Cok J X w F Fi k) (hb : J.sg.blt x = true) (hv : bootBuiltins x = some (.type T)) (ha : PA X (e :: es) (rdA (J.inf X.K) w dr)) (hg : Gl X x := by rfl) (hn : x ≠ "__name__" := by decide) (hdb : (x == ("__debug__" : Str)) = false := by decide)
    (he : starEach (e :: es) X.env = (false, eval e X.env) :: starEach es X.env := by rfl) (hpl : (backTo pos (starEach es X.env)).any (·.1) = false := by rfl) : PE X (.Call (.Name x p) (e :: es) [] pos) (rdE (J.inf X.K) w (dB g dr)) :=
  PE_imp (pe_callTy hc hg (t.glb x hb) hv ha hn hdb he hpl) fun σ H Q q => rd_args (f := fun ws S1 => (g ws S1).ne) q fun ws vs e S M H s sl r p => ⟨ws, S, M, s, r, p.ne⟩
theorem RepWs.one {M : List Addr} {H : Hp} {x : W} {vs : List V} (r : RepWs I M H [x] vs) : ∃ v, vs = [v] ∧ RepW I M H x v := by
  cases r with
  | cons r t => cases t; exact ⟨_, rfl, r⟩
theorem RepWs.two {M : List Addr} {H : Hp} {x y : W} {vs : List V} (r : RepWs I M H [x, y] vs) : ∃ v u, vs = [v, u] ∧ RepW I M H x v ∧ RepW I M H y u := by
  cases r with
  | cons r t => cases t with | cons r2 t => cases t; exact ⟨_, _, rfl, r, r2⟩
theorem lsOf_at {S : Sto} {M : List Addr} {H : Hp} {x : W} {v : V} {ws : List W} (sim : Sim I S M H) (r : RepW I M (mask S M H) x v) (e : lsOf x S = some ws) : ∃ a vs, v = .ref a ∧ SqL I.K H a vs ∧ RepWs I M (mask S M H) ws vs := by
  unfold lsOf at e
  split at e
  · cases e
    cases r with
    | lst h q => exact ⟨_, _, rfl, .inl (.inl (mask_ex _ _ h)), reps_map q⟩
  · cases e
    cases r with
    | lsx h q => exact ⟨_, _, rfl, ex_l mask_ex h, reps_map q⟩
  · split at e
    · rename_i y i hc
      cases e
      obtain ⟨a, ea, rfl⟩ := r
      obtain ⟨vs, ho, q⟩ := sim.cell _ _ a hc ea
      exact ⟨a, vs, rfl, .inl (.inl ho), q⟩
    · cases e
  · cases e
theorem c_len : CallR X (.builtin "len") (rdCall ⟨X.K, I.G, I.fl, I.X, I.ex⟩ gLen) := by
  intro pins s σ H vs us Q In r hh
  obtain ⟨ws, S, M, sim, rw', p⟩ := hh
  unfold gLen at p
  split at p
  · split at p
    · obtain ⟨v, rfl, rv⟩ := rw'.one
      cases rv
      exact call_len_str pins s σ H _ us Q In r ⟨_, rfl, by assumption, p.here sim (.int _)⟩
    · exact p.elim
  · split at p
    · obtain ⟨v, rfl, rv⟩ := rw'.one
      obtain ⟨a, vs, rfl, h, q⟩ := seqOf_at sim rv (by assumption)
      rw [Paired.length q] at p
      exact call_len_seq pins s σ H _ us Q In r ⟨a, vs, rfl, h, p.here sim (.int _)⟩
    · exact p.elim
  · exact p.elim
theorem c_abs : CallR X (.builtin "abs") (rdCall I gAbs) := by
  intro pins s σ H vs us Q In r hh
  obtain ⟨ws, S, M, sim, rw', p⟩ := hh
  unfold gAbs at p
  split at p
  · obtain ⟨v, rfl, rv⟩ := rw'.one
    cases rv
    exact call_abs pins s σ H _ us Q In r ⟨_, rfl, p.here sim (.int _)⟩
  · exact p.elim
theorem c_max2 (hc : X.calm = true) : CallR X (.builtin "max") (rdCall I gMax2) := by
  intro pins s σ H vs us Q In r hh
  obtain ⟨ws, S, M, sim, rw', p⟩ := hh
  unfold gMax2 at p
  split at p
  · obtain ⟨v, u, rfl, rv, ru⟩ := rw'.two
    cases rv
    cases ru
    exact call_max2 hc pins s σ H _ us Q In r ⟨_, _, rfl, p.here sim (.int _)⟩
  · exact p.elim
theorem c_min2 (hc : X.calm = true) : CallR X (.builtin "min") (rdCall I gMin2) := by
  intro pins s σ H vs us Q In r hh
  obtain ⟨ws, S, M, sim, rw', p⟩ := hh
  unfold gMin2 at p
  split at p
  · obtain ⟨v, u, rfl, rv, ru⟩ := rw'.two
    cases rv
    cases ru
    exact call_min2 hc pins s σ H _ us Q In r ⟨_, _, rfl, p.here sim (.int _)⟩
  · exact p.elim
theorem c_int : CallR X (.type "int") (rdCall I gInt) := by
  intro pins s σ H vs us Q In r hh
  obtain ⟨ws, S, M, sim, rw', p⟩ := hh
  unfold gInt at p
  split at p
  · obtain ⟨v, rfl, rv⟩ := rw'.one
    cases rv
    exact call_int1 pins s σ H _ us Q In r (.inl ⟨_, rfl, p.here sim (.int _)⟩)
  · obtain ⟨v, rfl, rv⟩ := rw'.one
    cases rv
    exact call_int1 pins s σ H _ us Q In r (.inr ⟨_, rfl, p.here sim (.int _)⟩)
  · exact p.elim
theorem c_str : CallR X (.type "str") (rdCall I gStr) := by
  intro pins s σ H vs us Q In r hh
  obtain ⟨ws, S, M, sim, rw', p⟩ := hh
  unfold gStr at p
  split at p
  · split at p
    · obtain ⟨v, rfl, rv⟩ := rw'.one
      cases rv
      exact call_str_int pins s σ H _ us Q In r ⟨_, rfl, by assumption, p.here sim (.str _)⟩
    · exact p.elim
  · exact p.elim
theorem c_tuple : CallR X (.type "tuple") (rdCall ⟨X.K, I.G, I.fl, I.X, I.ex⟩ gTuple) := by
  intro pins s σ H vs us Q In r hh
  obtain ⟨ws, S, M, sim, rw', p⟩ := hh
  unfold gTuple at p
  split at p
  · obtain ⟨v, rfl, rv⟩ := rw'.one
    cases rv with
    | tup h q => exact call_tuple_of pins s σ H _ us Q In r ⟨_, _, rfl, .inr ⟨ex_t mask_ex h, p.here sim (.tup h q)⟩⟩
  · split at p
    · rename_i ws hw
      split at p
      · rename_i xs hx
        obtain ⟨v, rfl, rv⟩ := rw'.one
        obtain ⟨a, vs, rfl, h, q⟩ := lsOf_at sim rv hw
        exact call_tuple_of pins s σ H _ us Q In r ⟨_, _, rfl, .inl ⟨h, fun l nl => new_d p sim nl fun H' hl ex => .tup (.inl (.inl hl)) ((plainL_rep q hx).mono ex)⟩⟩
      · exact p.elim
    · exact p.elim
  · exact p.elim
theorem c_list : CallR X (.type "list") (rdCall ⟨X.K, I.G, I.fl, I.X, I.ex⟩ gList) := by
  intro pins s σ H vs us Q In r hh
  obtain ⟨ws, S, M, sim, rw', p⟩ := hh
  unfold gList at p
  split at p
  · split at p
    · rename_i ws hw
      split at p
      · rename_i xs hx
        obtain ⟨v, rfl, rv⟩ := rw'.one
        obtain ⟨a, vs, rfl, h, q⟩ := seqOf_at sim rv hw
        exact call_list_of pins s σ H _ us Q In r ⟨_, _, rfl, h, fun l nl => new_d p sim nl fun H' hl ex => .lst hl ((plainL_rep q hx).mono ex)⟩
      · exact p.elim
    · exact p.elim
  · exact p.elim
theorem c_listC : CallR X (.type "list") (rdCall ⟨X.K, I.G, I.fl, I.X, I.ex⟩ gListC) := by
  intro pins s σ H vs us Q In r hh
  obtain ⟨ws, S, M, sim, rw', p⟩ := hh
  unfold gListC at p
  split at p
  · split at p
    · rename_i ws hw
      obtain ⟨v, rfl, rv⟩ := rw'.one
      obtain ⟨a, vs, rfl, h, q⟩ := seqOf_at sim rv hw
      exact call_list_of pins s σ H _ us Q In r ⟨_, _, rfl, h, fun l nl => new_c p sim nl (lows_of sim q) ⟨_, rfl, q⟩ (by intro z; cases z)⟩
    · exact p.elim
  · exact p.elim
/-! ### of a list of ints, of bools -/
def intsL : List W → Option (List Int)
  | [] => some []
  | .d (.int i) :: r => (intsL r).map (i :: ·)
  | _ => none
def boolsL : List W → Option (List Bool)
  | [] => some []
  | .d (.bl i) :: r => (boolsL r).map (i :: ·)
  | _ => none
theorem intsL_map : ∀ {ns : List Int}, intsL ((ns.map D.int).map W.d) = some ns
  | [] => rfl
  | n :: ns => by
    rw [List.map_cons, List.map_cons, intsL, intsL_map]
    rfl
theorem boolsL_map : ∀ {ns : List Bool}, boolsL ((ns.map D.bl).map W.d) = some ns
  | [] => rfl
  | n :: ns => by
    rw [List.map_cons, List.map_cons, boolsL, boolsL_map]
    rfl
theorem intsL_rep {M : List Addr} {H : Hp} : ∀ {ws : List W} {vs : List V} {ns : List Int}, RepWs I M H ws vs → intsL ws = some ns → vs = ns.map V.int
  | [], _, _, .nil, e => by cases e; rfl
  | .d (.int i) :: ws, _, ns, .cons r t, e => by
    rw [intsL] at e
    cases q : intsL ws with
    | none => rw [q] at e; cases e
    | some ms =>
      rw [q] at e
      cases e
      cases r
      rw [intsL_rep t q]
      rfl
theorem boolsL_rep {M : List Addr} {H : Hp} : ∀ {ws : List W} {vs : List V} {ns : List Bool}, RepWs I M H ws vs → boolsL ws = some ns → vs = ns.map V.bl
  | [], _, _, .nil, e => by cases e; rfl
  | .d (.bl i) :: ws, _, ns, .cons r t, e => by
    rw [boolsL] at e
    cases q : boolsL ws with
    | none => rw [q] at e; cases e
    | some ms =>
      rw [q] at e
      cases e
      cases r
      rw [boolsL_rep t q]
      rfl
def sortI (ns : List Int) : List Int := ns.mergeSort fun a b => decide (a ≤ b)
theorem sortI_eq {ns ms : List Int} (h : ms.Perm ns) (p : ms.Pairwise (· ≤ ·)) : ms = sortI ns := by
  refine List.Perm.eq_of_pairwise (le := (· ≤ ·)) (fun a b _ _ h1 h2 => Int.le_antisymm h1 h2) p ?_ (h.trans (List.mergeSort_perm ns _).symm)
  have := List.pairwise_mergeSort (le := fun (a b : Int) => decide (a ≤ b)) (fun a b c h1 h2 => by simp at *; omega) (fun a b => by simp; omega) ns
  exact this.imp fun h => by simpa using h
def gMax1 : List W → Sto → R W
  | [x], S => match (lsOf x S).bind intsL with
    | some ns => match ns.max? with
      | some m => .ok (.d (.int m)) S
      | none => .bad
    | none => .bad
  | _, _ => .bad
def gSum : List W → Sto → R W
  | [x], S => match (lsOf x S).bind intsL with
    | some ns => .ok (.d (.int ns.sum)) S
    | none => .bad
  | _, _ => .bad
def gSort : List W → Sto → R W
  | [x], S => match (lsOf x S).bind intsL with
    | some ns => .ok (.d (.lst ((sortI ns).map D.int))) S
    | none => .bad
  | _, _ => .bad
def gAny : List W → Sto → R W
  | [x], S => match (lsOf x S).bind boolsL with
    | some ns => .ok (.d (.bl (ns.any _root_.id))) S
    | none => .bad
  | _, _ => .bad
def gAll : List W → Sto → R W
  | [x], S => match (lsOf x S).bind boolsL with
    | some ns => .ok (.d (.bl (ns.all _root_.id))) S
    | none => .bad
  | _, _ => .bad
theorem ints_at {S : Sto} {M : List Addr} {H : Hp} {x : W} {v : V} {ns : List Int} (sim : Sim I S M H) (r : RepW I M (mask S M H) x v) (e : (lsOf x S).bind intsL = some ns) : ∃ a, v = .ref a ∧ SqL I.K H a (ns.map V.int) := by
  cases q : lsOf x S with
  | none => rw [q] at e; cases e
  | some ws =>
    rw [q] at e
    obtain ⟨a, vs, rfl, h, t⟩ := lsOf_at sim r q
    rw [intsL_rep t e] at h
    exact ⟨a, rfl, h⟩
theorem bools_at {S : Sto} {M : List Addr} {H : Hp} {x : W} {v : V} {ns : List Bool} (sim : Sim I S M H) (r : RepW I M (mask S M H) x v) (e : (lsOf x S).bind boolsL = some ns) : ∃ a, v = .ref a ∧ SqL I.K H a (ns.map V.bl) := by
  cases q : lsOf x S with
  | none => rw [q] at e; cases e
  | some ws =>
    rw [q] at e
    obtain ⟨a, vs, rfl, h, t⟩ := lsOf_at sim r q
    rw [boolsL_rep t e] at h
    exact ⟨a, rfl, h⟩
theorem reps_ints {H : Hp} : ∀ {ns : List Int}, Reps I H (ns.map D.int) (ns.map V.int)
  | [] => .nil
  | n :: ns => .cons (.int n) reps_ints
theorem c_max1 (hc : X.calm = true) : CallR X (.builtin "max") (rdCall ⟨X.K, I.G, I.fl, I.X, I.ex⟩ gMax1) := by
  intro pins s σ H vs us Q In r hh
  obtain ⟨ws, S, M, sim, rw', p⟩ := hh
  unfold gMax1 at p
  split at p
  · split at p
    · rename_i ns hn
      split at p
      · rename_i m hm
        obtain ⟨v, rfl, rv⟩ := rw'.one
        obtain ⟨a, rfl, h⟩ := ints_at sim rv hn
        obtain ⟨m1, m2⟩ := List.max?_eq_some_iff.mp hm
        refine cr_max hc pins s σ H _ us Q In r ⟨a, ns, rfl, h, List.length_pos_of_mem m1, fun m' h1 h2 => ?_⟩
        have : m' = m := Int.le_antisymm (m2 _ h1) (h2 _ m1)
        subst this
        exact p.here sim (.int _)
      · exact p.elim
    · exact p.elim
  · exact p.elim
theorem c_sum (hc : X.calm = true) : CallR X (.builtin "sum") (rdCall ⟨X.K, I.G, I.fl, I.X, I.ex⟩ gSum) := by
  intro pins s σ H vs us Q In r hh
  obtain ⟨ws, S, M, sim, rw', p⟩ := hh
  unfold gSum at p
  split at p
  · split at p
    · rename_i ns hn
      obtain ⟨v, rfl, rv⟩ := rw'.one
      obtain ⟨a, rfl, h⟩ := ints_at sim rv hn
      exact cr_sum hc pins s σ H _ us Q In r ⟨a, ns, rfl, h, p.here sim (.int _)⟩
    · exact p.elim
  · exact p.elim
theorem c_any (hc : X.calm = true) : CallR X (.builtin "any") (rdCall ⟨X.K, I.G, I.fl, I.X, I.ex⟩ gAny) := by
  intro pins s σ H vs us Q In r hh
  obtain ⟨ws, S, M, sim, rw', p⟩ := hh
  unfold gAny at p
  split at p
  · split at p
    · rename_i ns hn
      obtain ⟨v, rfl, rv⟩ := rw'.one
      obtain ⟨a, rfl, h⟩ := bools_at sim rv hn
      exact cr_any hc pins s σ H _ us Q In r ⟨a, ns, rfl, h, p.here sim (.bl _)⟩
    · exact p.elim
  · exact p.elim
theorem c_all (hc : X.calm = true) : CallR X (.builtin "all") (rdCall ⟨X.K, I.G, I.fl, I.X, I.ex⟩ gAll) := by
  intro pins s σ H vs us Q In r hh
  obtain ⟨ws, S, M, sim, rw', p⟩ := hh
  unfold gAll at p
  split at p
  · split at p
    · rename_i ns hn
      obtain ⟨v, rfl, rv⟩ := rw'.one
      obtain ⟨a, rfl, h⟩ := bools_at sim rv hn
      exact cr_all hc pins s σ H _ us Q In r ⟨a, ns, rfl, h, p.here sim (.bl _)⟩
    · exact p.elim
  · exact p.elim
theorem c_sorted : CallR X (.builtin "sorted") (rdCall ⟨X.K, I.G, I.fl, I.X, I.ex⟩ gSort) := by
  intro pins s σ H vs us Q In r hh
  obtain ⟨ws, S, M, sim, rw', p⟩ := hh
  unfold gSort at p
  split at p
  · split at p
    · rename_i ns hn
      obtain ⟨v, rfl, rv⟩ := rw'.one
      obtain ⟨a, rfl, h⟩ := ints_at sim rv hn
      refine cr_sortedI pins s σ H _ us Q In r ⟨a, ns, rfl, h, fun ms l hp hs nl => ?_⟩
      rw [sortI_eq hp hs]
      exact new_d p sim nl fun H' hl ex => .lst hl reps_ints
    · exact p.elim
  · exact p.elim
/-! ### isinstance -/
inductive Ty where
  | non | bl | int | str | tup | lst | dct | cls (c : Nat)
@[simp] def tyOf : W → Sto → Option Ty
  | .d .non, _ => some .non
  | .d (.bl _), _ => some .bl
  | .d (.int _), _ => some .int
  | .d (.str _), _ => some .str
  | .d (.tup _), _ => some .tup
  | .d (.lst _), _ => some .lst
  | .d (.lsx _), _ => some .lst
  | .d (.obj c _), _ => some (.cls c)
  | .d (.dK _), _ => some .dct
  | .d (.dT _), _ => some .dct
  | .c i, S => match S[i]? with
    | some (.lst _) => some .lst
    | some (.ins c _) => some (.cls c)
    | some (.dK _) => some .dct
    | some (.dT _) => some .dct
    | _ => none
  | .e _ _, _ => none
def Ty.nm : Ty → String
  | .non => "NoneType" | .bl => "bool" | .int => "int" | .str => "str" | .tup => "tuple" | .lst => "list" | .dct => "dict" | .cls _ => ""
/-- is t of the built-in type T -/
@[simp] def isT : Ty → Ty → Bool
  | .non, .non => true | .bl, .bl => true | .bl, .int => true | .int, .int => true | .str, .str => true | .tup, .tup => true | .lst, .lst => true | .dct, .dct => true
  | _, _ => false
@[simp] def dIsT (T : Ty) (a : DE) : DE := fun e S => (a e S).bind fun x S1 => match tyOf x S1 with
  | some t => .ok (.d (.bl (isT t T))) S1
  | none => .bad
@[simp] def dIsC (sub : Nat → Nat → Bool) (c : Nat) (a : DE) : DE := fun e S => (a e S).bind fun x S1 => match tyOf x S1 with
  | some (.cls c') => .ok (.d (.bl (sub c' c))) S1
  | some _ => .ok (.d (.bl false)) S1
  | none => .bad
theorem kitb (t T : Ty) (h1 : t.nm ≠ "") (h2 : T.nm ≠ "") : kitB t.nm T.nm = some (isT t T) := by
  cases t <;> cases T <;> first | exact absurd rfl h1 | exact absurd rfl h2 | decide +kernel
theorem nm_mem (t : Ty) (h : t.nm ≠ "") : t.nm ∈ ["NoneType", "bool", "int", "str", "tuple", "list", "dict"] := by
  cases t <;> first | exact absurd rfl h | simp [Ty.nm]
/-- a value's type -/
theorem ty_at (t : Cok J X w F Fi k) {S : Sto} {M : List Addr} {H : Hp} {x : W} {v : V} {y : Ty} (sim : Sim (J.inf X.K) S M H) (r : RepW (J.inf X.K) M (mask S M H) x v) (e : tyOf x S = some y) :
    (y.nm ≠ "" ∧ TyX X.K H v (.type y.nm)) ∨ ∃ c C, y = .cls c ∧ J.G c = some C ∧ TyX X.K H v (.ref C) := by
  have lstX : ∀ {a : Addr} {vs : List V}, SqL X.K H a vs → TyX X.K H (.ref a) (.type "list") := fun {a vs} h => by
    rcases h with (h | ⟨o, h⟩) | ⟨o, its, n, h1, h2, _⟩
    · exact .base (.lst h)
    · exact .base (.frz h)
    · exact .kList h1 h2
  unfold tyOf at e
  split at e
  · cases e; cases r; exact .inl ⟨by decide, .base .non⟩
  · cases e; cases r; exact .inl ⟨by decide, .base (.bl _)⟩
  · cases e; cases r; exact .inl ⟨by decide, .base (.int _)⟩
  · cases e; cases r; exact .inl ⟨by decide, .base (.str _)⟩
  · cases e
    cases r with
    | tup h q =>
      refine .inl ⟨by decide, ?_⟩
      rcases ex_t mask_ex h with (h | ⟨o, h⟩) | ⟨o, its, n, h1, h2, _⟩
      · exact .base (.tup h)
      · exact .fTuple h
      · exact .kTuple h1 h2
  · cases e
    cases r with
    | lst h q => exact .inl ⟨by decide, lstX (.inl (.inl (mask_ex _ _ h)))⟩
  · cases e
    cases r with
    | lsx h q => exact .inl ⟨by decide, lstX (ex_l mask_ex h)⟩
  · cases e
    cases r with
    | obj g h l q =>
      obtain ⟨t1, t2, t3, t4⟩ := t.ty _ _ g
      exact .inr ⟨_, _, rfl, g, .base (.ins (mask_ex _ _ h) (t.cls _ _ g) t1 t2 t3 t4)⟩
  · cases e
    cases r with
    | dK h q => exact .inl ⟨by decide, .base (.dK (mask_ex _ _ h))⟩
  · cases e
    cases r with
    | dT h q => exact .inl ⟨by decide, .base (.dT (mask_ex _ _ h))⟩
  · obtain ⟨a, ea, rfl⟩ := r
    split at e
    · cases e
      obtain ⟨vs, ho, q⟩ := sim.cell _ _ a (by assumption) ea
      exact .inl ⟨by decide, lstX (.inl (.inl ho))⟩
    · cases e
      obtain ⟨C, dx, vs, g, h, l, q⟩ := sim.cell _ _ a (by assumption) ea
      obtain ⟨t1, t2, t3, t4⟩ := t.ty _ _ g
      exact .inr ⟨_, _, rfl, g, .base (.ins h (t.cls _ _ g) t1 t2 t3 t4)⟩
    · cases e
      obtain ⟨us, h, q⟩ := sim.cell _ _ a (by assumption) ea
      exact .inl ⟨by decide, .base (.dK h)⟩
    · cases e
      obtain ⟨us, h, q⟩ := sim.cell _ _ a (by assumption) ea
      exact .inl ⟨by decide, .base (.dT h)⟩
    · cases e
  · cases e
theorem sx_isT {n : String} {xt : Str} {pt : Pos} {T' : Ty} (t : Cok J X w F Fi k) (hn : T'.nm = n) (h2 : T'.nm ≠ "") (hb : J.sg.blt "isinstance" = true) (hb2 : J.sg.blt xt = true) (hv : bootBuiltins xt = some (.type n)) (ha : PE X a (rdE (J.inf X.K) w da)) (hg : Gl X "isinstance" := by rfl) (hg2 : Gl X xt := by rfl) (hn2 : xt ≠ "__name__" := by decide) (hdb2 : (xt == ("__debug__" : Str)) = false := by decide)
    (he : starEach [a, .Name xt pt] X.env = (false, eval a X.env) :: starEach [.Name xt pt] X.env := by rfl) (hpl : (backTo pos (starEach [.Name xt pt] X.env)).any (·.1) = false := by rfl) : PE X (.Call (.Name "isinstance" p) [a, .Name xt pt] [] pos) (rdE (J.inf X.K) w (dIsT T' da)) :=
  PE_imp (pe_callB call_isi hg (t.glb _ hb) (by decide +kernel) (pa_cons ha (pa_cons (pe_bltn (v := .ty n) hg2 (t.glb _ hb2) hv rfl hn2 hdb2) pa_nil) he) (by decide) (by decide) he hpl) fun σ H Q q =>
    rd_one (rel := RepW (J.inf X.K)) (f := fun _ x S1 => match tyOf x S1 with
  | some t => .ok (W.d (.bl (isT t T'))) S1
  | none => .bad) q fun x v e S M H s sl r p => by
    split at p
    · rename_i y hy
      show ∃ (x c : V) (t u : Value) (b : Bool), [v, V.ty n] = [x, c] ∧ ClsV c u ∧ TyX X.K H x t ∧ PySem.W.kitOne X.K t u = some b ∧ Q (.bl b) H
      rcases ty_at t s r hy with ⟨h, ty⟩ | ⟨c, C, rfl, g, ty⟩
      · exact ⟨v, .ty n, _, .type n, _, rfl, .ty n, ty, by rw [← hn]; exact kit_ty (kitb y T' h h2), p.here s (.bl _)⟩
      · refine ⟨v, .ty n, _, .type n, _, rfl, .ty n, ty, by rw [← hn]; exact t.ist _ _ _ (nm_mem T' h2) g, ?_⟩
        have e : isT (.cls c) T' = false := by cases T' <;> rfl
        rw [e] at p
        exact p.here s (.bl _)
    · exact p.elim
theorem sx_isC {xt : Str} {pt : Pos} {c : Nat} (t : Cok J X w F Fi k) (hb : J.sg.blt "isinstance" = true) (hc : J.sg.cn xt = some c) (ha : PE X a (rdE (J.inf X.K) w da)) (hg : Gl X "isinstance" := by rfl) (hg2 : Gl X xt := by rfl) (hdb2 : (xt == ("__debug__" : Str)) = false := by decide)
    (he : starEach [a, .Name xt pt] X.env = (false, eval a X.env) :: starEach [.Name xt pt] X.env := by rfl) (hpl : (backTo pos (starEach [.Name xt pt] X.env)).any (·.1) = false := by rfl) : PE X (.Call (.Name "isinstance" p) [a, .Name xt pt] [] pos) (rdE (J.inf X.K) w (dIsC J.sg.sub c da)) := by
  obtain ⟨C, g, hm⟩ := t.cnm xt c hc
  refine PE_imp (pe_callB call_isi hg (t.glb _ hb) (by decide +kernel) (pa_cons ha (pa_cons (pe_glob (v := .ref C) hg2 hm rfl hdb2) pa_nil) he) (by decide) (by decide) he hpl) fun σ H Q q =>
    rd_one (rel := RepW (J.inf X.K)) (f := fun _ x S1 => match tyOf x S1 with
  | some (.cls c') => .ok (W.d (.bl (J.sg.sub c' c))) S1
  | some _ => .ok (W.d (.bl false)) S1
  | none => .bad) q fun x v e S M H s sl r p => ?_
  show ∃ (x c : V) (t u : Value) (b : Bool), [v, V.ref C] = [x, c] ∧ ClsV c u ∧ TyX X.K H x t ∧ PySem.W.kitOne X.K t u = some b ∧ Q (.bl b) H
  split at p
  · rename_i c' hy
    rcases ty_at t s r hy with ⟨h, ty⟩ | ⟨c2, C2, e2, g2, ty⟩
    · exact absurd rfl h
    · cases e2
      exact ⟨v, .ref C, _, .ref C, _, rfl, .own C, ty, t.isc _ _ _ _ g2 g, p.here s (.bl _)⟩
  · rename_i y hy hne
    rcases ty_at t s r hne with ⟨h, ty⟩ | ⟨c2, C2, e2, g2, ty⟩
    · exact ⟨v, .ref C, _, .ref C, _, rfl, .own C, ty, t.isb _ _ _ (nm_mem _ h) g, p.here s (.bl _)⟩
    · exact absurd e2 (hy c2)
  · exact p.elim
end
end Py

/-! Py8: slices; operators of one's own. -/
namespace Py
open PySem PySem.Spec PyProof.Rows L2
abbrev DO := Env → Sto → R (Option Int)
@[simp] def oNone : DO := fun _ S => .ok none S
@[simp] def oSome (a : DE) : DO := fun e S => (a e S).bind fun x S1 => match x with
  | .d (.int i) => .ok (some i) S1
  | _ => .bad
def cutL {α : Type} (xs : List α) (lo hi : Option Int) : List α := (xs.drop (HT.sIx xs.length 0 lo)).take (HT.sIx xs.length xs.length hi - HT.sIx xs.length 0 lo)
@[simp] def slc : W → Option Int → Option Int → Sto → R W
  | .d (.str x), lo, hi, S => if x.length ≤ sizeLine then .ok (.d (.str (cutS x lo hi))) S else .bad
  | .d (.tup xs), lo, hi, S => .ok (.d (.tup (cutL xs lo hi))) S
  | x, lo, hi, S => match lsOf x S with
    | some ws => match plainL ws with
      | some xs => .ok (.d (.lst (cutL xs lo hi))) S
      | none => .bad
    | none => .bad
@[simp] def dSl (a : DE) (lo hi : DO) : DE := fun e S => (a e S).bind fun x S1 => (lo e S1).bind fun l S2 => (hi e S2).bind fun u S3 => slc x l u S3
section
variable {J : Jn} {X : Cx} {I : Inf} {w : WX} {F Fi : FnTab} {k : Nat} {a b c e : Expr} {es rest : List Expr} {da db dc : DE} {dr : DA} {pos p p2 : Pos} {lo hi : Option Expr} {dl dh : DO}
def rdO (I : Inf) (w : WX) (d : DO) : TO := fun σ H Q => ∃ (env : Env) (S : Sto) (M : List Addr), Sim I S M H ∧ Slots I M (mask S M H) env σ ∧ EndR I S M H (fun _ _ a b => a = b) Q (fun cls dd H' => w cls dd σ H') (d env S)
theorem PO_imp {e : Option Expr} {t t' : TO} (h : PO X e t) (i : ∀ σ H Q, t' σ H Q → t σ H Q) : PO X e t' := ⟨fun pins s σ H Q I q => h.run pins s σ H Q I (i σ H Q q)⟩
theorem so_none : PO X none (rdO I w oNone) := PO_imp po_none fun σ H Q ⟨e, S, M, s, sl, p⟩ => EndR.here (rel := fun _ _ a b => a = b) p s rfl
theorem so_some (h : PE X a (rdE I w da)) : PO X (some a) (rdO I w (oSome da)) := PO_imp (po_some h) fun σ H Q q => rd_one (rel := fun _ _ a b => a = b) (f := fun _ x S1 => match x with
  | .d (.int i) => .ok (some i) S1
  | _ => .bad) q fun x v e S M H s sl r p => by
    split at p
    · cases r
      exact ⟨_, rfl, p.here s rfl⟩
    · exact p.elim
def rdSl (I : Inf) : V → Option Int → Option Int → Hp → VK → Prop := fun v lo hi H Q => ∃ (x : W) (S : Sto) (M : List Addr), Sim I S M H ∧ RepW I M (mask S M H) x v ∧ EndR I S M H (RepW I) Q E0 (slc x lo hi S)
theorem Reps.cut {H : Hp} {xs : List D} {vs : List V} (r : Reps I H xs vs) (lo hi : Option Int) : Reps I H (cutL xs lo hi) (cutV vs lo hi) := by
  unfold cutL cutV
  rw [r.len]
  exact (r.drop _).take _
theorem cut_whole {α : Type} {xs : List α} {lo hi : Option Int} (h : HT.sIx xs.length 0 lo = 0 ∧ HT.sIx xs.length xs.length hi = xs.length) : cutL xs lo hi = xs := by
  unfold cutL
  rw [h.1, h.2]
  simp
theorem sl_all : SlR X (rdSl ⟨X.K, I.G, I.fl, I.X, I.ex⟩) := by
  intro pins s σ H v u vl vu lo hi sl Q In rv hs pl pu hh
  obtain ⟨x, S, M, sim, rx, p⟩ := hh
  unfold slc at p
  split at p
  · split at p
    · cases rx
      exact sl_str pins s σ H _ u vl vu lo hi sl Q In rv hs pl pu ⟨_, rfl, by assumption, p.here sim (.str _)⟩
    · exact p.elim
  · cases rx with
    | tup h r =>
      refine sl_tupA pins s σ H _ u vl vu lo hi sl Q In rv hs pl pu ⟨_, _, rfl, ex_t mask_ex h, fun e => ?_, fun _ q nq => new_d p sim nq fun H' hl ex => .tup (.inl (.inl hl)) ((r.cut lo hi).mono ex)⟩
      rw [← r.len] at e
      rw [cut_whole e] at p
      exact p.here sim (.tup h r)
  · split at p
    · rename_i ws hw
      split at p
      · rename_i xs hx
        obtain ⟨a, vs, rfl, h, q⟩ := lsOf_at sim rx hw
        exact sl_list pins s σ H _ u vl vu lo hi sl Q In rv hs pl pu ⟨a, vs, rfl, h, fun q' nq => new_d p sim nq fun H' hl ex => .lst hl (((plainL_rep q hx).cut lo hi).mono ex)⟩
      · exact p.elim
    · exact p.elim
theorem slc_ne (x : W) (lo hi : Option Int) (S : Sto) : slc x lo hi S = (slc x lo hi S).ne := by
  unfold slc
  repeat' split
  all_goals rfl
theorem sx_sl (ha : PE X a (rdE ⟨X.K, I.G, I.fl, I.X, I.ex⟩ w da)) (hl : PO X lo (rdO ⟨X.K, I.G, I.fl, I.X, I.ex⟩ w dl)) (hh : PO X hi (rdO ⟨X.K, I.G, I.fl, I.X, I.ex⟩ w dh)) : PE X (.Subscript a (.Slice lo hi none p2) pos) (rdE ⟨X.K, I.G, I.fl, I.X, I.ex⟩ w (dSl da dl dh)) :=
  PE_imp (pe_slice sl_all ha hl hh) fun σ H Q q => by
    obtain ⟨e, S, M, sim, sl, p⟩ := q
    refine ⟨e, S, M, sim, sl, (EndR.bind (rel1 := RepW ⟨X.K, I.G, I.fl, I.X, I.ex⟩) p).imp fun v H1 ⟨x, S1, M1, l1, s1, r1, p1⟩ => ?_⟩
    refine ⟨e, S1, M1, s1, sl.mono l1, (EndR.bind (rel1 := fun _ _ a b => a = b) p1).imp fun y H2 ⟨y', S2, M2, l2, s2, r2, p2⟩ => ?_⟩
    subst r2
    refine ⟨e, S2, M2, s2, (sl.mono l1).mono l2, (EndR.bind (rel1 := fun _ _ a b => a = b) p2).imp fun z H3 ⟨z', S3, M3, l3, s3, r3, p3⟩ => ?_⟩
    subst r3
    exact ⟨x, S3, M3, s3, (r1.mono l2).mono l3, noE (slc_ne _ _ _ _) p3⟩
end
/-! ### a method of a class, called by values -/
section
variable {J : Jn} {X : Cx} {w : WX} {F Fi : FnTab} {k : Nat}
/-- an operator that the class c has as the method f; else g -/
@[simp] def opO (F : FnTab) (c f : Nat) (g : W → W → Sto → R W) : W → W → Sto → R W
  | .d (.obj c1 xs), .d (.obj c2 ys), S => if c1 = c ∧ c2 = c then F f [.d (.obj c1 xs), .d (.obj c2 ys)] S else .bad
  | x, y, S => g x y S
@[simp] def unO (F : FnTab) (c f : Nat) (g : W → Sto → R W) : W → Sto → R W
  | .d (.obj c1 xs), S => if c1 = c then F f [.d (.obj c1 xs)] S else .bad
  | x, S => g x S
theorem rel_ref {a : Addr} : RelV (.ref a) (.ref a) := rfl
theorem cmpBack_of {Q : VK} {pins : List (Addr × Obj)} {σ : L2.St} {v : Value} {s' : Shared} (h : EP X pins σ Q v s') : PySem.W.CmpBack (EP X pins σ Q) v s' := by
  obtain ⟨x, H', I', r, q⟩ := id h
  cases x <;> first
    | (obtain ⟨t, rfl⟩ := r; exact h)
    | (cases r; exact h)
theorem obj_look {I : Inf} {pins : List (Addr × Obj)} {σ : L2.St} {H : Hp} {s : Shared} {a C dx : Addr} {fs : List (Str × V)} (In : Inv X pins σ H s) (h : H a = some (.ins C dx fs)) : ∃ od, PySem.W.InstAt s.heap a (PySem.W.instObj C dx) C (some od) := by
  obtain ⟨mA, O, _⟩ := ins_get In.hok h
  obtain ⟨od, J, _⟩ := O.look
  exact ⟨od, J⟩
theorem run_m (t : Cok J X w F Fi k) {f c n : Nat} {m : Str} {fa : Addr} {fd : FuncData} {ps : List Str} (h3 : FnOk X.prog X.w X.K X.mg X.base (L2.CX X.prog X.w) (k + 1) fa fd ps (spOf (J.inf X.K) F f n)) (h4 : Binds X.K fd ps [])
    {pins : List (Addr × Obj)} {σ : L2.St} {H : Hp} {s : Shared} {Q : VK} {us : List Value} {vs : List V} {ws : List W} {S : Sto} {M : List Addr} (In : Inv X pins σ H s) (r : Vals vs us) (hl : vs.length = n) (sim : Sim (J.inf X.K) S M H) (rw' : RepWs (J.inf X.K) M (mask S M H) ws vs) (p : EndR (J.inf X.K) S M H (RepW (J.inf X.K)) Q E0 (F f ws S)) :
    wpAny (model X.prog X.w) X.A (call (.ref fa) us) (EP X pins σ Q) X.xe s :=
  run_fn (dvs := []) (E := E0) h3 t.room h4 .nil passL In r (by rw [List.append_nil]; exact ⟨hl, ws, S, M, sim, rw', p⟩)
theorem o_own (t : Cok J X w F Fi k) {op : Operator} {g : W → W → Sto → R W} {f c : Nat} {m : Str} (h : J.sg.mt f = some (c, m, 2)) (hm : m = PySem.dunder op.info.2) (hg : OpR X (binaryOp op) (rdOp (J.inf X.K) g)) : OpR X (binaryOp op) (rdOp (J.inf X.K) (opO F c f g)) := by
  intro pins s σ H v u ov ou Q In rv ru hh
  obtain ⟨x, y, S, M, sim, rx, ry, p⟩ := hh
  unfold opO at p
  split at p
  · split at p
    · rename_i hc
      obtain ⟨rfl, rfl⟩ := hc
      obtain ⟨C, fa, fd, ps, h1, h2, h3, h4⟩ := t.meth f _ m 2 h
      have rx0 := rx
      have ry0 := ry
      cases rx with
      | obj g1 e1 l1 q1 =>
      cases ry with
      | obj g2 e2 l2 q2 =>
      have eC := h1.symm.trans g1
      cases eC
      have eC := h1.symm.trans g2
      cases eC
      cases rv
      cases ru
      obtain ⟨od, J1⟩ := obj_look (I := J.inf X.K) In (mask_ex _ _ e1)
      obtain ⟨od2, J2⟩ := obj_look (I := J.inf X.K) In (mask_ex _ _ e2)
      obtain ⟨mm, hF⟩ := In.fr
      refine PySem.W.binop_K hF In.ok.mod.kin J1 J2.type (t.sf _ _ h1) (hm ▸ h2.at_) h2.fn ?_
      exact wpAny_mono (run_m (m := m) (c := 0) t h3 h4 In (.cons rel_ref (.cons rel_ref .nil)) rfl sim (.cons rx0 (.cons ry0 .nil)) p) (fun _ _ z => cmpBack_of z) fun _ _ z => z
    · exact p.elim
  · exact hg pins s σ H v u ov ou Q In rv ru ⟨x, y, S, M, sim, rx, ry, p⟩
theorem u_own (t : Cok J X w F Fi k) {g : W → Sto → R W} {f c : Nat} (h : J.sg.mt f = some (c, ("__neg__" : Str), 1)) (hg : UnR X (unaryOp .USub) (rdUn (J.inf X.K) g)) : UnR X (unaryOp .USub) (rdUn (J.inf X.K) (unO F c f g)) := by
  intro pins s σ H v ov Q In rv hh
  obtain ⟨x, S, M, sim, rx, p⟩ := hh
  unfold unO at p
  split at p
  · split at p
    · rename_i hc
      subst hc
      obtain ⟨C, fa, fd, ps, h1, h2, h3, h4⟩ := t.meth f _ _ 1 h
      have rx0 := rx
      cases rx with
      | obj g1 e1 l1 q1 =>
      have eC := h1.symm.trans g1
      cases eC
      cases rv
      obtain ⟨od, J1⟩ := obj_look (I := J.inf X.K) In (mask_ex _ _ e1)
      obtain ⟨mm, hF⟩ := In.fr
      refine PySem.W.ksp_neg hF In.ok.mod.kin J1 h2.at_ h2.fn ?_
      exact run_m (m := "__neg__") (c := 0) t h3 h4 In (.cons rel_ref .nil) rfl sim (.cons rx0 .nil) p
    · exact p.elim
  · exact hg pins s σ H v ov Q In rv ⟨x, S, M, sim, rx, p⟩
theorem tr_own (t : Cok J X w F Fi k) {f c : Nat} (h : J.sg.mt f = some (c, ("__bool__" : Str), 1)) : TruR X (rdTru (J.inf X.K) (truO F c f)) := by
  intro pins s σ H v ov Q In rv hh
  obtain ⟨x, S, M, sim, rx, p⟩ := hh
  unfold truO at p
  split at p
  · split at p
    · rename_i hc
      subst hc
      obtain ⟨C, fa, fd, ps, h1, h2, h3, h4⟩ := t.meth f _ _ 1 h
      have rx0 := rx
      cases rx with
      | obj g1 e1 l1 q1 =>
      have eC := h1.symm.trans g1
      cases eC
      cases rv
      obtain ⟨od, J1⟩ := obj_look (I := J.inf X.K) In (mask_ex _ _ e1)
      obtain ⟨mm, hF⟩ := In.fr
      refine PySem.W.truthy_K hF In.ok.mod.kin J1 h2.at_ h2.fn ?_
      refine wpAny_mono (run_m (m := "__bool__") (c := 0) (Q := fun v H' => ∃ b, v = .bl b ∧ Q b H') t h3 h4 In (.cons rel_ref .nil) rfl sim (.cons rx0 .nil) ?_) (fun r s' z => ?_) fun _ _ z => z
      · split at p
        · rename_i b S' he
          rw [he]
          intro v H' M' l' s' rv'
          cases rv'
          exact ⟨_, rfl, p _ H' M' l' s' rfl⟩
        · exact p.elim
      · obtain ⟨v, H', I', rv', b, rfl, q⟩ := z
        cases rv'
        exact ⟨H', I', q⟩
    · exact p.elim
  · exact tru_plain (I := J.inf X.K) In rv sim rx p
end
end Py

/-! deep equality of plain data; in, not in -/
namespace Py
open PySem PySem.Spec PyProof.Rows L2
mutual
def D.py : D → Option PyData
  | .non => some .none
  | .bl b => some (.bool b)
  | .int i => some (.int i)
  | .str x => some (.str x)
  | .tup xs => (D.pyL xs).map .tuple
  | .lst xs => (D.pyL xs).map .list
  | .lsx xs => (D.pyL xs).map .list
  | .obj _ _ => none
  | .dK _ => none
  | .dT _ => none
def D.pyL : List D → Option (List PyData)
  | [] => some []
  | x :: xs => match D.py x, D.pyL xs with
    | some a, some b => some (a :: b)
    | _, _ => none
end
mutual
theorem dp_of {I : Inf} {H H' : Hp} (ex : Ex H H') : ∀ {x : D} {v : V} {p : PyData}, Rep I H x v → D.py x = some p → Dp I.K H' v p
  | .non, _, _, r, e => by rw [D.py] at e; cases e; cases r; exact .non
  | .bl b, _, _, r, e => by rw [D.py] at e; cases e; cases r; exact .bl _
  | .int i, _, _, r, e => by rw [D.py] at e; cases e; cases r; exact .int _
  | .str x, _, _, r, e => by rw [D.py] at e; cases e; cases r; exact .str _
  | .tup xs, _, _, r, e => by
    rw [D.py] at e
    cases q : D.pyL xs with
    | none => rw [q] at e; cases e
    | some ps =>
      rw [q] at e
      cases e
      cases r with
      | tup h t => exact .tup (ex_t ex h) (dp_all ex t q)
  | .lst xs, _, _, r, e => by
    rw [D.py] at e
    cases q : D.pyL xs with
    | none => rw [q] at e; cases e
    | some ps =>
      rw [q] at e
      cases e
      cases r with
      | lst h t => exact .lst (.inl (.inl (ex _ _ h))) (dp_all ex t q)
  | .lsx xs, _, _, r, e => by
    rw [D.py] at e
    cases q : D.pyL xs with
    | none => rw [q] at e; cases e
    | some ps =>
      rw [q] at e
      cases e
      cases r with
      | lsx h t => exact .lst (ex_l ex h) (dp_all ex t q)
  | .obj c xs, _, _, r, e => by rw [D.py] at e; cases e
  | .dK k, _, _, r, e => by rw [D.py] at e; cases e
  | .dT k, _, _, r, e => by rw [D.py] at e; cases e
theorem dp_all {I : Inf} {H H' : Hp} (ex : Ex H H') : ∀ {xs : List D} {vs : List V} {ps : List PyData}, Reps I H xs vs → D.pyL xs = some ps → DpAll I.K H' vs ps
  | [], _, _, r, e => by rw [D.pyL] at e; cases e; cases r; exact .nil
  | x :: xs, _, _, r, e => by
    rw [D.pyL] at e
    cases r with
    | cons r1 rs =>
      split at e
      · rename_i a b ha hb
        cases e
        exact .cons (dp_of ex r1 ha) (dp_all ex rs hb)
      · cases e
end
/-- a value as plain data -/
def wpy : W → Sto → Option PyData
  | .d x, _ => D.py x
  | .c i, S => match S[i]? with
    | some (.lst ws) => (plainL ws).bind fun xs => (D.pyL xs).map .list
    | _ => none
  | .e _ _, _ => none
theorem wpy_dp {I : Inf} {S : Sto} {M : List Addr} {H : Hp} {x : W} {v : V} {p : PyData} (sim : Sim I S M H) (r : RepW I M (mask S M H) x v) (e : wpy x S = some p) : Dp I.K H v p := by
  cases x with
  | d x => exact dp_of mask_ex r e
  | e c x => cases e
  | c i =>
    have e : (match S[i]? with
      | some (.lst ws) => (plainL ws).bind fun xs => (D.pyL xs).map PyData.list
      | _ => none) = some p := e
    cases hc : S[i]? with
    | none => rw [hc] at e; cases e
    | some o =>
      rw [hc] at e
      cases o with
      | lst ws =>
        have e : ((plainL ws).bind fun xs => (D.pyL xs).map PyData.list) = some p := e
        cases q : plainL ws with
        | none => rw [q] at e; cases e
        | some xs =>
          rw [q] at e
          cases q2 : D.pyL xs with
          | none => simp [q2] at e
          | some ps =>
            have e : PyData.list ps = p := by simpa [q2] using e
            subst e
            obtain ⟨a, ea, rfl⟩ := r
            obtain ⟨vs, ho, t⟩ := sim.cell _ _ a hc ea
            exact .lst (.inl (.inl ho)) (dp_all mask_ex (plainL_rep t q) q2)
      | dead => cases e
      | ins c ws => cases e
      | dK k => cases e
      | dT k => cases e
def shp (p : PyData) : Bool := SeqAt.shaped p
def opEqD (x y : W) (S : Sto) : R W := match wpy x S, wpy y S with
  | some p, some q => if shp p = true ∧ shp q = true then .ok (.d (.bl (PyData.eqv p q))) S else .bad
  | _, _ => .bad
def opNeD (x y : W) (S : Sto) : R W := match wpy x S, wpy y S with
  | some p, some q => if shp p = true ∧ shp q = true then .ok (.d (.bl (!PyData.eqv p q))) S else .bad
  | _, _ => .bad
theorem o_eqD {X : Cx} {I : Inf} (hu : X.A.units + 64 < cLine) : OpR X (compareOp .Eq) (rdOp ⟨X.K, I.G, I.fl, I.X, I.ex⟩ opEqD) := by
  intro pins s σ H v u ov ou Q In rv ru hh
  obtain ⟨x, y, S, M, sim, rx, ry, p⟩ := hh
  unfold opEqD at p
  split at p
  · rename_i a b ha hb
    split at p
    · rename_i hs
      exact op_eqD hu pins s σ H v u ov ou Q In rv ru ⟨a, b, wpy_dp sim rx ha, wpy_dp sim ry hb, hs.1, hs.2, p.here sim (.bl _)⟩
    · exact p.elim
  · exact p.elim
theorem o_neD {X : Cx} {I : Inf} (hu : X.A.units + 64 < cLine) : OpR X (compareOp .NotEq) (rdOp ⟨X.K, I.G, I.fl, I.X, I.ex⟩ opNeD) := by
  intro pins s σ H v u ov ou Q In rv ru hh
  obtain ⟨x, y, S, M, sim, rx, ry, p⟩ := hh
  unfold opNeD at p
  split at p
  · rename_i a b ha hb
    split at p
    · rename_i hs
      exact op_neD hu pins s σ H v u ov ou Q In rv ru ⟨a, b, wpy_dp sim rx ha, wpy_dp sim ry hb, hs.1, hs.2, p.here sim (.bl _)⟩
    · exact p.elim
  · exact p.elim
def opInD (neg : Bool) (x y : W) (S : Sto) : R W := match wpy x S, wpy y S with
  | some p, some (.list qs) => if shp p = true ∧ shp (.list qs) = true then .ok (.d (.bl (if neg then !(qs.any fun z => PyData.eqv z p) else qs.any fun z => PyData.eqv z p))) S else .bad
  | _, _ => .bad
theorem o_inD {X : Cx} {I : Inf} (hu : X.A.units + 65 < cLine) : OpR X (compareOp .In) (rdOp ⟨X.K, I.G, I.fl, I.X, I.ex⟩ (opInD false)) := by
  intro pins s σ H v u ov ou Q In rv ru hh
  obtain ⟨x, y, S, M, sim, rx, ry, p⟩ := hh
  unfold opInD at p
  split at p
  · rename_i a b ha hb
    split at p
    · rename_i hs
      exact op_inD hu pins s σ H v u ov ou Q In rv ru ⟨a, b, wpy_dp sim rx ha, wpy_dp sim ry hb, hs.1, hs.2, p.here sim (.bl _)⟩
    · exact p.elim
  · exact p.elim
theorem o_notInD {X : Cx} {I : Inf} (hu : X.A.units + 65 < cLine) : OpR X (compareOp .NotIn) (rdOp ⟨X.K, I.G, I.fl, I.X, I.ex⟩ (opInD true)) := by
  intro pins s σ H v u ov ou Q In rv ru hh
  obtain ⟨x, y, S, M, sim, rx, ry, p⟩ := hh
  unfold opInD at p
  split at p
  · rename_i a b ha hb
    split at p
    · rename_i hs
      exact op_notInD hu pins s σ H v u ov ou Q In rv ru ⟨a, b, wpy_dp sim rx ha, wpy_dp sim ry hb, hs.1, hs.2, p.here sim (.bl _)⟩
    · exact p.elim
  · exact p.elim
theorem units65 {k : Nat} {A : Around} (r : Room k A) : A.units + 65 < cLine := by have := r.un; omega
theorem units64 {k : Nat} {A : Around} (r : Room k A) : A.units + 64 < cLine := by have := r.un; omega
/-- == and != of data: scalars, else deep -/
def opEqG (x y : W) (S : Sto) : R W := match x, y with
  | .d a, .d b => match eqS a b with
    | some r => .ok (.d (.bl r)) S
    | none => opEqD x y S
  | _, _ => opEqD x y S
def opNeG (x y : W) (S : Sto) : R W := match x, y with
  | .d a, .d b => match eqS a b with
    | some r => .ok (.d (.bl (!r))) S
    | none => opNeD x y S
  | _, _ => opNeD x y S
theorem o_eqG {X : Cx} {I : Inf} (hu : X.A.units + 64 < cLine) : OpR X (compareOp .Eq) (rdOp ⟨X.K, I.G, I.fl, I.X, I.ex⟩ opEqG) := by
  intro pins s σ H v u ov ou Q In rv ru hh
  obtain ⟨x, y, S, M, sim, rx, ry, p⟩ := hh
  cases x with
  | c i => exact o_eqD (I := I) hu pins s σ H v u ov ou Q In rv ru ⟨_, y, S, M, sim, rx, ry, p⟩
  | e _ _ => exact o_eqD (I := I) hu pins s σ H v u ov ou Q In rv ru ⟨_, y, S, M, sim, rx, ry, p⟩
  | d a =>
    cases y with
    | c i => exact o_eqD (I := I) hu pins s σ H v u ov ou Q In rv ru ⟨_, _, S, M, sim, rx, ry, p⟩
    | e _ _ => exact o_eqD (I := I) hu pins s σ H v u ov ou Q In rv ru ⟨_, _, S, M, sim, rx, ry, p⟩
    | d b =>
      have p : EndR ⟨X.K, I.G, I.fl, I.X, I.ex⟩ S M H (RepW ⟨X.K, I.G, I.fl, I.X, I.ex⟩) Q E0 (match eqS a b with
        | some r => .ok (.d (.bl r)) S
        | none => opEqD (.d a) (.d b) S) := p
      cases q : eqS a b with
      | none =>
        rw [q] at p
        exact o_eqD (I := I) hu pins s σ H v u ov ou Q In rv ru ⟨_, _, S, M, sim, rx, ry, p⟩
      | some r =>
        rw [q] at p
        refine o_eq (I := ⟨X.K, I.G, I.fl, I.X, I.ex⟩) pins s σ H v u ov ou Q In rv ru ⟨.d a, .d b, S, M, sim, rx, ry, ?_⟩
        have e : opEqS (.d a) (.d b) S = (.ok (W.d (.bl r)) S : R W) := by simp only [opEqS, q]
        rw [e]
        exact p
theorem o_neG {X : Cx} {I : Inf} (hu : X.A.units + 64 < cLine) : OpR X (compareOp .NotEq) (rdOp ⟨X.K, I.G, I.fl, I.X, I.ex⟩ opNeG) := by
  intro pins s σ H v u ov ou Q In rv ru hh
  obtain ⟨x, y, S, M, sim, rx, ry, p⟩ := hh
  cases x with
  | c i => exact o_neD (I := I) hu pins s σ H v u ov ou Q In rv ru ⟨_, y, S, M, sim, rx, ry, p⟩
  | e _ _ => exact o_neD (I := I) hu pins s σ H v u ov ou Q In rv ru ⟨_, y, S, M, sim, rx, ry, p⟩
  | d a =>
    cases y with
    | c i => exact o_neD (I := I) hu pins s σ H v u ov ou Q In rv ru ⟨_, _, S, M, sim, rx, ry, p⟩
    | e _ _ => exact o_neD (I := I) hu pins s σ H v u ov ou Q In rv ru ⟨_, _, S, M, sim, rx, ry, p⟩
    | d b =>
      have p : EndR ⟨X.K, I.G, I.fl, I.X, I.ex⟩ S M H (RepW ⟨X.K, I.G, I.fl, I.X, I.ex⟩) Q E0 (match eqS a b with
        | some r => .ok (.d (.bl (!r))) S
        | none => opNeD (.d a) (.d b) S) := p
      cases q : eqS a b with
      | none =>
        rw [q] at p
        exact o_neD (I := I) hu pins s σ H v u ov ou Q In rv ru ⟨_, _, S, M, sim, rx, ry, p⟩
      | some r =>
        rw [q] at p
        refine o_ne (I := ⟨X.K, I.G, I.fl, I.X, I.ex⟩) pins s σ H v u ov ou Q In rv ru ⟨.d a, .d b, S, M, sim, rx, ry, ?_⟩
        have e : opNeS (.d a) (.d b) S = (.ok (W.d (.bl (!r))) S : R W) := by simp only [opNeS, q]
        rw [e]
        exact p
end Py

/-! Py9: statements. -/
namespace Py
open PySem PySem.Spec PyProof.Rows L2
@[simp] def bindS {α : Type} (r : R α) (e : Env) (k : α → Sto → RS) : RS := match r with
  | .ok a S => k a S
  | .exc c x S => .exc c x e S
  | .bad => .bad
@[simp] def sPass : DS := fun e S => .nx e S
@[simp] def sSeq (a b : DS) : DS := fun e S => match a e S with
  | .nx e1 S1 => b e1 S1
  | r => r
@[simp] def sExpr (a : DE) : DS := fun e S => bindS (a e S) e fun _ S1 => .nx e S1
@[simp] def sRet (a : DE) : DS := fun e S => bindS (a e S) e fun w S1 => .rt w S1
@[simp] def sRetN : DS := fun _ S => .rt (.d .non) S
@[simp] def sIf (t : DT) (a b : DS) : DS := fun e S => bindS (t e S) e fun c S1 => if c = true then a e S1 else b e S1
@[simp] def sBreak : DS := fun e S => .bk e S
@[simp] def sCont : DS := fun e S => .ct e S
@[simp] def sNever : DS := fun _ _ => .bad
/-! targets -/
abbrev GT := W → Env → Option Env
@[simp] def gNm (i : Nat) : GT := fun w e => some (e.set i (some w))
@[simp] def gNil : List W → Env → Option Env
  | [], e => some e
  | _, _ => none
@[simp] def gCons (g : GT) (gs : List W → Env → Option Env) : List W → Env → Option Env
  | w :: ws, e => match g w e with
    | some e1 => gs ws e1
    | none => none
  | _, _ => none
@[simp] def gTp (gs : List W → Env → Option Env) : GT := fun w e => match w with
  | .d (.tup xs) => gs (xs.map W.d) e
  | _ => none
@[simp] def sAsg (a : DE) (g : GT) : DS := fun e S => bindS (a e S) e fun w S1 => match g w e with
  | some e1 => .nx e1 S1
  | none => .bad
@[simp] def sPar (i j : Nat) (a b : DE) : DS := fun e S => bindS (a e S) e fun x S1 => bindS (b e S1) e fun y S2 => .nx ((e.set i (some x)).set j (some y)) S2
/-- x op= e -/
@[simp] def sAug (i : Nat) (f : W → W → Sto → R W) (a : DE) : DS := fun e S => match e[i]? with
  | some (some x) => bindS (a e S) e fun y S1 => bindS (f x y S1).ne e fun z S2 => .nx (e.set i (some z)) S2
  | _ => .bad
def W.lowB (n : Nat) : W → Bool
  | .d _ => true
  | .c j => Nat.blt j n
  | .e _ _ => true
theorem W.lowB_of {n : Nat} {w : W} (h : w.lowB n = true) : w.low n := by
  cases w with
  | d x => trivial
  | c j => exact Nat.lt_of_lt_of_le (Nat.lt_succ_self _) (Nat.le_of_ble_eq_true h)
  | e c x => trivial
@[simp] theorem W.lowB_d (n : Nat) (x : D) : (W.d x).lowB n = true := rfl
/-- o[i] = v -/
@[simp] def setIx (o i v : W) (S : Sto) : Option Sto := match o, i with
  | .c k, .d (.int j) => match S[k]? with
    | some (.lst ws) => match ixN ws.length j with
      | some p => if v.lowB k = true then some (S.set k (.lst (ws.set p v))) else none
      | none => none
    | _ => none
  | _, _ => none
@[simp] def sSub (v o i : DE) : DS := fun e S => bindS (v e S) e fun x S1 => bindS (o e S1) e fun y S2 => bindS (i e S2) e fun z S3 => match setIx y z x S3 with
  | some S4 => .nx e S4
  | none => .bad
/-- o.f = v, f the i-th field of the class c -/
@[simp] def setAt (c i : Nat) (o v : W) (S : Sto) : Option Sto := match o with
  | .c k => match S[k]? with
    | some (.ins c' ws) => if c' = c ∧ v.lowB k = true then (if i < ws.length then some (S.set k (.ins c (ws.set i v))) else if i = ws.length then some (S.set k (.ins c (ws ++ [v]))) else none) else none
    | _ => none
  | _ => none
@[simp] def sFldD (c i : Nat) (v o : DE) : DS := fun e S => bindS (v e S) e fun x S1 => bindS (o e S1) e fun y S2 => match setAt c i y x S2 with
  | some S3 => .nx e S3
  | none => .bad
/-- o.append(v) as a statement -/
@[simp] def app (o v : W) (S : Sto) : Option Sto := match o with
  | .c k => match S[k]? with
    | some (.lst ws) => if v.lowB k = true ∧ ws.length < sizeLine then some (S.set k (.lst (ws ++ [v]))) else none
    | _ => none
  | _ => none
/-- a list that is a cell -/
@[simp] def isLc : W → Sto → Bool
  | .c i, S => match S[i]? with
    | some (.lst _) => true
    | _ => false
  | _, _ => false
@[simp] def dApp (o v : DE) : DE := fun e S => (o e S).bind fun x S1 => if isLc x S1 = true then ((v e S1).bind fun y S2 => match app x y S2 with
  | some S3 => .ok (.d .non) S3
  | none => .bad) else .bad
/-! loops -/
@[simp] def uns : List Nat → Env → Env
  | [], e => e
  | i :: l, e => (uns l e).set i none
def whileL (ks : List Nat) (t : DT) (b : DS) : Nat → Env → Sto → RS
  | 0, _, _ => .bad
  | n + 1, e, S => bindS (t (uns ks e) S) (uns ks e) fun c S1 => if c = true then (match b (uns ks e) S1 with
    | .nx e2 S2 => whileL ks t b n e2 S2
    | .ct e2 S2 => whileL ks t b n e2 S2
    | .bk e2 S2 => .nx (uns ks e2) S2
    | r => r) else .nx (uns ks e) S1
def sWhile (n : Nat) (ks : List Nat) (t : DT) (b : DS) : DS := fun e S => whileL ks t b n e S
open Classical in
noncomputable def forL (ks : List Nat) (g : GT) (b : DS) (gd : Sto → Prop) : List W → Env → Sto → RS
  | [], e, S => if gd S then .nx (uns ks e) S else .bad
  | x :: xs, e, S => if gd S then (match g x (uns ks e) with
    | none => .bad
    | some e1 => match b e1 S with
      | .nx e2 S2 => forL ks g b gd xs e2 S2
      | .ct e2 S2 => forL ks g b gd xs e2 S2
      | .bk e2 S2 => .nx (uns ks e2) S2
      | r => r) else .bad
/-- what a for walks: the items, and what must stay -/
abbrev DI := Env → Sto → R (List W × (Sto → Prop))
noncomputable def sFor (ks : List Nat) (g : GT) (i : DI) (b : DS) : DS := fun e S => bindS (i e S) e fun p S1 => forL ks g b p.2 p.1 e S1
open Classical in
noncomputable def compL (g : GT) (t : DT) (el : DE) (gd : Sto → Prop) (e : Env) : List W → Sto → R (List W)
  | [], S => if gd S then .ok [] S else .bad
  | x :: xs, S => if gd S then (match g x e with
    | none => .bad
    | some e1 => (t e1 S).ne.bind fun c S1 => if c = true then ((el e1 S1).ne.bind fun y S2 => (compL g t el gd e xs S2).bind fun ys S3 => .ok (y :: ys) S3) else compL g t el gd e xs S1) else .bad
@[simp] def tYesD : DT := fun _ S => .ok true S
/-- [el for g in i if t], plain data; own: the slots of its names -/
noncomputable def dComp (own : List Nat) (g : GT) (i : DI) (t : DT) (el : DE) : DE := fun e S => (i e S).bind fun p S1 => (compL g t el p.2 (uns own e) p.1 S1).bind fun ws S2 => if ws.length ≤ 16777216 then (match plainL ws with
  | some xs => .ok (.d (.lst xs)) S2
  | none => .bad) else .bad
/-- .. a cell -/
noncomputable def dCompC (own : List Nat) (g : GT) (i : DI) (t : DT) (el : DE) : DE := fun e S => (i e S).bind fun p S1 => (compL g t el p.2 (uns own e) p.1 S1).bind fun ws S2 => if ws.length ≤ 16777216 then .ok (.c S2.length) (S2 ++ [.lst ws]) else .bad
section
variable {J : Jn} {X : Cx} {I : Inf} {w : WX} {F Fi : FnTab} {k : Nat} {a b c e o : Expr} {es rest : List Expr} {da db dc d_o : DE} {dr : DA} {ta : DT} {pos p p2 : Pos} {st : Stmt} {sts sts' : List Stmt} {ds dt : DS}
theorem EndS.wk {S : Sto} {M : List Addr} {H : Hp} {D D' : Ends} {r : RS} (h : EndS I S M H D w r) (h1 : D.nx = D'.nx) (h2 : D.rt = D'.rt) (h3 : D.bk = D'.bk) (h4 : D.ct = D'.ct) : EndS I S M H D' w r := by
  cases D
  cases D'
  simp only at h1 h2 h3 h4
  subst h1 h2 h3 h4
  exact h
theorem ss_nil : PSs X [] (rdS I w sPass) := PSs_imp pss_nil fun D σ H ⟨e, S, M, s, sl, p⟩ => p σ H M Le.refl s sl
theorem ss_one (h : PS X st (rdS I w ds)) : PSs X [st] (rdS I w ds) := pss_one h
theorem ss_cons (h1 : PS X st (rdS I w ds)) (h2 : PSs X sts (rdS I w dt)) : PSs X (st :: sts) (rdS I w (sSeq ds dt)) := PSs_imp (pss_cons h1 h2) fun D σ H ⟨e, S, M, s, sl, p⟩ => by
  refine ⟨e, S, M, s, sl, ?_⟩
  unfold sSeq at p
  generalize ds e S = r at p ⊢
  cases r with
  | nx e1 S1 => exact fun σ' H' M' l' s' sl' => ⟨e1, S1, M', s', sl', p.up l'⟩
  | bk e1 S1 => exact p
  | ct e1 S1 => exact p
  | rt w S1 => exact p
  | exc c x e1 S1 => exact p
  | bad => exact p
/-- an expression, then a statement's end -/
theorem rdS_at {D : Ends} {σ : L2.St} {env : Env} {S : Sto} {M : List Addr} {H : Hp} {f : W → Sto → RS} {P : V → Hp → Prop} (s : Sim I S M H) (sl : Slots I M (mask S M H) env σ) (p : EndS I S M H D w (bindS (da env S) env f))
    (k : ∀ (x : W) (v : V) (S1 : Sto) (M1 : List Addr) (H1 : Hp), Le S M H S1 M1 H1 → Sim I S1 M1 H1 → Slots I M1 (mask S1 M1 H1) env σ → RepW I M1 (mask S1 M1 H1) x v → EndS I S1 M1 H1 D w (f x S1) → P v H1) : rdE I w da σ H P := by
  refine ⟨env, S, M, s, sl, ?_⟩
  generalize da env S = r at p ⊢
  cases r with
  | ok x S1 => exact fun v H' M' l' s' r' => k x v S1 M' H' l' s' (sl.mono l') r' (p.up l')
  | exc c x S1 => exact fun cls dd H' M' l' s' r' => p cls dd σ H' M' l' s' (sl.mono l') r'
  | bad => exact p
theorem rdS_one {D : Ends} {σ : L2.St} {H : Hp} {f : Env → W → Sto → RS} {P : V → Hp → Prop}
    (h : ∃ (env : Env) (S : Sto) (M : List Addr), Sim I S M H ∧ Slots I M (mask S M H) env σ ∧ EndS I S M H D w (bindS (da env S) env fun x S1 => f env x S1))
    (k : ∀ (x : W) (v : V) (env : Env) (S : Sto) (M : List Addr) (H : Hp), Sim I S M H → Slots I M (mask S M H) env σ → RepW I M (mask S M H) x v → EndS I S M H D w (f env x S) → P v H) :
    rdE I w da σ H P := by
  obtain ⟨e, S, M, s, sl, p⟩ := h
  refine ⟨e, S, M, s, sl, ?_⟩
  generalize da e S = r at p ⊢
  cases r with
  | ok x S1 => exact fun v H' M' l' s' r' => k x v e S1 M' H' s' (sl.mono l') r' (p.up l')
  | exc c x S1 => exact fun cls dd H' M' l' s' r' => p cls dd σ H' M' l' s' (sl.mono l') r'
  | bad => exact p
theorem rdS_test {D : Ends} {σ : L2.St} {H : Hp} {f : Env → Bool → Sto → RS} {P : Bool → Hp → Prop}
    (h : ∃ (env : Env) (S : Sto) (M : List Addr), Sim I S M H ∧ Slots I M (mask S M H) env σ ∧ EndS I S M H D w (bindS (ta env S) env fun x S1 => f env x S1))
    (k : ∀ (x : Bool) (env : Env) (S : Sto) (M : List Addr) (H : Hp), Sim I S M H → Slots I M (mask S M H) env σ → EndS I S M H D w (f env x S) → P x H) :
    rdT I w ta σ H P := by
  obtain ⟨e, S, M, s, sl, p⟩ := h
  refine ⟨e, S, M, s, sl, ?_⟩
  generalize ta e S = r at p ⊢
  cases r with
  | ok x S1 => exact fun v H' M' l' s' r' => k v e S1 M' H' s' (sl.mono l') (by subst r'; exact p.up l')
  | exc c x S1 => exact fun cls dd H' M' l' s' r' => p cls dd σ H' M' l' s' (sl.mono l') r'
  | bad => exact p
theorem ss_expr (h : PE X e (rdE I w da)) (hs : swapsWith e none pos.line X.env = pure false := by rfl) : PS X (.Expr e pos) (rdS I w (sExpr da)) := PS_imp (ps_expr h hs) fun D σ H q =>
  rdS_one (f := fun e _ S1 => .nx e S1) q fun x v e S M H s sl r p => p σ H M Le.refl s sl
theorem ss_ret (h : PE X e (rdE I w da)) : PS X (.Return (some e) pos) (rdS I w (sRet da)) := PS_imp (ps_ret h) fun D σ H q =>
  rdS_one (f := fun _ x S1 => .rt x S1) q fun x v e S M H s sl r p => p v H M Le.refl s r
theorem ss_retN : PS X (.Return none pos) (rdS I w sRetN) := PS_imp ps_retN fun D σ H ⟨e, S, M, s, sl, p⟩ => p .non H M Le.refl s .non
theorem ss_pass : PS X (.Pass pos) (rdS I w sPass) := PS_imp ps_pass fun D σ H ⟨e, S, M, s, sl, p⟩ => p σ H M Le.refl s sl
theorem ss_break : PS X (.Break pos) (rdS I w sBreak) := PS_imp ps_break fun D σ H ⟨e, S, M, s, sl, p⟩ => p σ H M Le.refl s sl
theorem ss_cont : PS X (.Continue pos) (rdS I w sCont) := PS_imp ps_continue fun D σ H ⟨e, S, M, s, sl, p⟩ => p σ H M Le.refl s sl
theorem ss_never : PS X st (rdS I w sNever) := PS_imp ps_never fun D σ H ⟨e, S, M, s, sl, p⟩ => p
theorem ss_if (hc : PT X c (rdT I w ta)) (h1 : PSs X sts (rdS I w ds)) (h2 : PSs X sts' (rdS I w dt)) : PS X (.If c sts sts' pos) (rdS I w (sIf ta ds dt)) := PS_imp (ps_if hc h1 h2) fun D σ H q =>
  rdS_test (f := fun e c S1 => if c = true then ds e S1 else dt e S1) q fun x e S M H s sl p => by
    split at p
    · rename_i h
      rw [if_pos h]
      exact ⟨e, S, M, s, sl, p⟩
    · rename_i h
      rw [if_neg h]
      exact ⟨e, S, M, s, sl, p⟩
/-! targets -/
def rdG (I : Inf) (g : GT) (vs : List Nat) : TG := fun v σ H Q => ∃ (x : W) (env : Env) (S : Sto) (M : List Addr), Sim I S M H ∧ Slots I M (mask S M H) env σ ∧ RepW I M (mask S M H) x v ∧ ∃ env', g x env = some env' ∧
  ∀ σ', Slots I M (mask S M H) env' σ' → (∀ own : List Nat, (∀ i ∈ vs, i ∈ own) → wipe σ' own = wipe σ own) → Q σ' H
def rdGs (I : Inf) (g : List W → Env → Option Env) (vs : List Nat) : TGs := fun us σ H Q => ∃ (xs : List W) (env : Env) (S : Sto) (M : List Addr), Sim I S M H ∧ Slots I M (mask S M H) env σ ∧ RepWs I M (mask S M H) xs us ∧ ∃ env', g xs env = some env' ∧
  ∀ σ', Slots I M (mask S M H) env' σ' → (∀ own : List Nat, (∀ i ∈ vs, i ∈ own) → wipe σ' own = wipe σ own) → Q σ' H
theorem PG_imp {e : Expr} {t t' : TG} (h : PG X e t) (i : ∀ v σ H Q, t' v σ H Q → t v σ H Q) : PG X e t' := ⟨fun pins s σ H v u Q I r q => h.run pins s σ H v u Q I r (i v σ H Q q)⟩
theorem PGs_imp {e : List Expr} {t t' : TGs} (h : PGs X e t) (i : ∀ v σ H Q, t' v σ H Q → t v σ H Q) : PGs X e t' := ⟨fun pins s σ H v u Q I r q => h.run pins s σ H v u Q I r (i v σ H Q q)⟩
theorem wipe_set {σ : L2.St} {i : Nat} {x : Option V} : ∀ {own : List Nat}, i ∈ own → wipe (σ.set i x) own = wipe σ own
  | j :: own, h => by
    show (wipe (σ.set i x) own).set j none = (wipe σ own).set j none
    by_cases hi : i ∈ own
    · rw [wipe_set hi]
    · have : i = j := by
        rcases List.mem_cons.mp h with h | h
        · exact h
        · exact absurd h hi
      subst this
      refine List.ext_getElem? fun m => ?_
      rw [List.getElem?_set, List.getElem?_set]
      by_cases hm : i = m
      · subst hm
        rw [if_pos rfl, if_pos rfl, wipe_length, wipe_length, List.length_set]
      · rw [if_neg hm, if_neg hm]
        have : ∀ {τ τ' : L2.St} {l : List Nat}, τ[m]? = τ'[m]? → τ.length = τ'.length → (wipe τ l)[m]? = (wipe τ' l)[m]? := fun {τ τ' l} h1 h2 => by
          induction l with
          | nil => exact h1
          | cons q l ih =>
            show ((wipe τ l).set q none)[m]? = ((wipe τ' l).set q none)[m]?
            rw [List.getElem?_set, List.getElem?_set]
            by_cases z : q = m
            · rw [if_pos z, if_pos z, wipe_length, wipe_length, h2]
            · rw [if_neg z, if_neg z]
              exact ih
        exact this (by rw [List.getElem?_set_ne hm]) (by simp)
theorem sg_nm {i : Nat} {x : Str} (hN : X.N.Nodup) (hi : X.N[i]? = some x := by rfl) (hx : Loc X.env.scope x := by first | exact Or.inl rfl | exact Or.inr rfl) (hf : X.fn x = true ∨ X.env.scope.names.lookup x = some .local := by first | exact .inl rfl | exact .inr rfl | assumption) : PG X (.Name x pos) (rdG I (gNm i) [i]) :=
  PG_imp (pg_name hN hi hx hf) fun v σ H Q ⟨x, env, S, M, s, sl, r, env', he, k⟩ => by
    cases he
    exact k _ (sl.set r) fun own h => wipe_set (h i (by simp))
theorem sgs_nil : PGs X [] (rdGs I gNil []) := PGs_imp pgs_nil fun v σ H Q ⟨x, env, S, M, s, sl, r, env', he, k⟩ => by
  cases r with
  | nil =>
    cases he
    exact ⟨rfl, k _ sl fun _ _ => rfl⟩
  | cons r t => cases he
theorem sgs_cons {g : GT} {gs : List W → Env → Option Env} {vs us : List Nat} (h1 : PG X e (rdG I g vs)) (h2 : PGs X es (rdGs I gs us)) (hs : (assignEach (e :: es) X.env).map (·.2) = assign e X.env :: (assignEach es X.env).map (·.2) := by rfl) : PGs X (e :: es) (rdGs I (gCons g gs) (vs ++ us)) :=
  PGs_imp (pgs_cons h1 h2 hs) fun v σ H Q ⟨x, env, S, M, s, sl, r, env', he, k⟩ => by
    cases r with
    | nil => cases he
    | cons r t =>
      dsimp only [gCons] at he
      split at he
      · rename_i e1 h1'
        refine ⟨_, _, rfl, _, env, S, M, s, sl, r, e1, h1', fun σ1 sl1 w1 => ⟨_, e1, S, M, s, sl1, t, env', he, fun σ2 sl2 w2 => k σ2 sl2 fun own h => ?_⟩⟩
        rw [w2 own fun i m => h i (List.mem_append_right _ m), w1 own fun i m => h i (List.mem_append_left _ m)]
      · cases he
theorem sg_tp {gs : List W → Env → Option Env} {vs : List Nat} {kk n : Nat} (hc : X.calm = true) (h : PGs X es (rdGs ⟨X.K, I.G, I.fl, I.X, I.ex⟩ gs vs)) (hl : ∀ xs e e', gs xs e = some e' → xs.length = n)
    (hn : (assignEach es X.env).length = n := by rfl) (hst : (assignEach es X.env).findIdx? (·.1) = none := by rfl) : PG X (.Tuple es kk pos) (rdG ⟨X.K, I.G, I.fl, I.X, I.ex⟩ (gTp gs) vs) :=
  PG_imp (pg_tup hc h hn hst) fun v σ H Q ⟨x, env, S, M, s, sl, r, env', he, k⟩ => by
    unfold gTp at he
    split at he
    · cases r with
      | tup h2 r2 => exact ⟨_, _, rfl, ex_t mask_ex h2, by rw [← r2.len, ← hl _ _ _ he, List.length_map], _, env, S, M, s, sl, reps_map r2, env', he, k⟩
    · cases he
theorem gNil_len : ∀ (xs : List W) (e e' : Env), gNil xs e = some e' → xs.length = 0
  | [], _, _, _ => rfl
  | _ :: _, _, _, h => by cases h
theorem gCons_len {g : GT} {gs : List W → Env → Option Env} {n : Nat} (h : ∀ xs e e', gs xs e = some e' → xs.length = n) : ∀ (xs : List W) (e e' : Env), gCons g gs xs e = some e' → xs.length = n + 1
  | [], _, _, q => by cases q
  | x :: xs, e, e', q => by
    dsimp only [gCons] at q
    split at q
    · rw [List.length_cons, h _ _ _ q]
    · cases q
theorem ss_asg {tg : Expr} {g : GT} {vs : List Nat} (he : PE X e (rdE I w da)) (hg : PG X tg (rdG I g vs)) (hs : swapsWithSole [tg] e pos.line X.env = pure false := by rfl) (hw : swappedStores [tg] e X.env = pure none := by rfl)
    (h1 : (assignEach [tg] X.env).map (·.2) = [assign tg X.env] := by rfl) : PS X (.Assign [tg] e pos) (rdS I w (sAsg da g)) := PS_imp (ps_asg he hg hs hw h1) fun D σ H q =>
  rdS_one (f := fun e x S1 => match g x e with
  | some e1 => .nx e1 S1
  | none => .bad) q fun x v e S M H s sl r p => by
    split at p
    · exact ⟨x, e, S, M, s, sl, r, _, by assumption, fun σ' sl' _ => p σ' H M Le.refl s sl'⟩
    · exact p.elim
theorem ss_set {i : Nat} {x : Str} {pos' : Pos} (hN : X.N.Nodup) (he : PE X e (rdE I w da)) (hi : X.N[i]? = some x := by rfl) (hx : Loc X.env.scope x := by first | exact Or.inl rfl | exact Or.inr rfl) (hs : swapsWith e (some (.Name x pos')) pos.line X.env = pure false := by rfl)
    (hf : X.fn x = true ∨ X.env.scope.names.lookup x = some .local := by first | exact .inl rfl | exact .inr rfl | assumption) : PS X (.Assign [.Name x pos'] e pos) (rdS I w (sAsg da (gNm i))) := PS_imp (ps_set hN hi hx he hs hf) fun D σ H q =>
  rdS_one (f := fun e x S1 => .nx (e.set i (some x)) S1) q fun x v e S M H s sl r p => p _ H M Le.refl s (sl.set r)
theorem ss_par {i j : Nat} {x y : Str} {a b : Expr} {px py pt : Pos} {kt k2 pt2} (hc : X.calm = true) (hN : X.N.Nodup) (hij : i ≠ j) (ha : PE X a (rdE I w da)) (hb : PE X b (rdE I w db)) (hi : X.N[i]? = some x := by rfl) (hj : X.N[j]? = some y := by rfl)
    (hx : X.env.scope.names.lookup x = some .local := by rfl) (hy : X.env.scope.names.lookup y = some .local := by rfl)
    (hs1 : starEach [a, b] X.env = (false, eval a X.env) :: starEach [b] X.env := by rfl) (hs2 : starEach [b] X.env = (false, eval b X.env) :: starEach [] X.env := by rfl)
    (hw : swappedStores [.Tuple [.Name x px, .Name y py] kt pt] (.Tuple [a, b] k2 pt2) X.env = pure (some [x, y]) := by rfl)
    (hs : swapsWithSole [.Tuple [.Name x px, .Name y py] kt pt] (.Tuple [a, b] k2 pt2) pos.line X.env = pure false := by rfl) :
    PS X (.Assign [.Tuple [.Name x px, .Name y py] kt pt] (.Tuple [a, b] k2 pt2) pos) (rdS I w (sPar i j da db)) :=
  PS_imp (ps_par hc hN hi hj hij hx hy (pa_cons ha (pa_cons hb pa_nil hs2) hs1) hw hs) fun D σ H q =>
    rdS_one (f := fun e x S1 => bindS (db e S1) e fun y S2 => .nx ((e.set i (some x)).set j (some y)) S2) q fun x v e S M H s sl r p => by
      refine ⟨e, S, M, s, sl, ?_⟩
      generalize db e S = rr at p ⊢
      cases rr with
      | ok y S1 => exact fun u H' M' l' s' r' => ⟨v, u, rfl, p _ H' M' l' s' (((sl.mono l').set (r.mono l')).set r')⟩
      | exc c x S1 => exact fun cls dd H' M' l' s' r' => p cls dd σ H' M' l' s' (sl.mono l') r'
      | bad => exact p
theorem setIx_at {S S' : Sto} {M : List Addr} {H : Hp} {y z x : W} {vy vz v : V} {Q : Hp → Prop} (s : Sim I S M H) (ry : RepW I M (mask S M H) y vy) (rz : RepW I M (mask S M H) z vz) (rx : RepW I M (mask S M H) x v) (e : setIx y z x S = some S')
    (k : ∀ H', Le S M H S' M H' → Sim I S' M H' → Q H') : rSetL vy vz v H Q := by
  unfold setIx at e
  split at e
  · split at e
    · split at e
      · split at e
        · rename_i k' j _ ws hc _ q hq hlo
          cases e
          obtain ⟨a, ea, rfl⟩ := ry
          obtain ⟨vs, ho, q'⟩ := s.cell _ _ a hc ea
          cases rz
          have hl := Paired.length q'
          have lo : ∀ u ∈ ws.set q x, u.low k' := fun u m => by
            rcases List.mem_or_eq_of_mem_set m with m | m
            · exact s.low _ _ hc u m
            · subst m
              exact W.lowB_of hlo
          have pset : ∀ {as : List W} {bs : List V} (n : Nat), RepWs I M (mask S M H) as bs → RepWs I M (mask S M H) (as.set n x) (bs.set n v) := fun {as bs} n r => by
            induction r generalizing n with
            | nil => exact .nil
            | cons r t ih =>
              cases n with
              | zero => exact .cons rx t
              | succ n => exact .cons r (ih n)
          obtain ⟨s', l'⟩ := s.write (o := .lst (vs.set q v)) (c' := .lst (ws.set q x)) hc ea (by intro z; cases z) (by intro z; cases z) lo ⟨_, rfl, pset q q'⟩
          exact ⟨a, vs, _, q, rfl, rfl, ho, by rw [← hl]; exact hq, k _ l' s'⟩
        · cases e
      · cases e
    · cases e
  · cases e
theorem ss_sub {v o i : Expr} {dv d_i : DE} {tpos : Pos} (hv : PE X v (rdE I w dv)) (ho : PE X o (rdE I w d_o)) (hi : PE X i (rdE I w d_i))
    (hs : swapsWithSole [.Subscript o i tpos] v pos.line X.env = pure false := by rfl) (hw : swappedStores [.Subscript o i tpos] v X.env = pure none := by rfl)
    (h1 : (assignEach [.Subscript o i tpos] X.env).map (·.2) = [assign (.Subscript o i tpos) X.env] := by rfl)
    (ha : ∀ v, assign (.Subscript o i tpos) X.env v = (do
      let ov ← holding [v] (eval o X.env)
      let iv ← holding [v, ov] (eval i X.env)
      standAt tpos
      holding [v, ov, iv] (setItem ov iv v)
      release [v, ov, iv] []) := by intro _; rfl) : PS X (.Assign [.Subscript o i tpos] v pos) (rdS I w (sSub dv d_o d_i)) :=
  PS_imp (ps_asg hv (pg_sub ho hi set_list ha) hs hw h1) fun D σ H q => by
    obtain ⟨e, S, M, s, sl, p⟩ := q
    refine rdS_at s sl p fun x vx S1 M1 H1 l1 s1 sl1 r1 p1 => ?_
    refine rdS_at s1 sl1 p1 fun y vy S2 M2 H2 l2 s2 sl2 r2 p2 => ?_
    refine rdS_at s2 sl2 p2 fun z vz S3 M3 H3 l3 s3 sl3 r3 p3 => ?_
    split at p3
    · exact setIx_at s3 (r2.mono l3) r3 ((r1.mono l2).mono l3) (by assumption) fun H' l' s' => p3 σ H' M3 l' s' (sl3.mono l')
    · exact p3.elim
theorem setAt_at {S S' : Sto} {M : List Addr} {H : Hp} {y x : W} {vy v : V} {c i : Nat} {m : Str} {Q : Hp → Prop} (hm : (I.fl c)[i]? = some m) (hn : (I.fl c).Nodup) (hf : (I.fl c).length < 1000) (s : Sim I S M H) (ry : RepW I M (mask S M H) y vy) (rx : RepW I M (mask S M H) x v) (e : setAt c i y x S = some S')
    (k : ∀ H', Le S M H S' M H' → Sim I S' M H' → Q H') : ∃ a C dx fs, vy = .ref a ∧ I.G c = some C ∧ H a = some (.ins C dx fs) ∧ fs.length < 1000 ∧ Q (upd H a (.ins C dx (putF m v fs))) := by
  unfold setAt at e
  split at e
  · split at e
    · split at e
      · rename_i k' _ c' ws hc hh
        obtain ⟨rfl, hlo⟩ := hh
        obtain ⟨a, ea, rfl⟩ := ry
        obtain ⟨C, dx, vs, g, h, l, q⟩ := s.cell _ _ a hc ea
        have hl := Paired.length q
        have hi : i < (I.fl c').length := (List.getElem?_eq_some_iff.mp hm).1
        have put : ∀ {ks : List Str} {us : List V} {j : Nat}, ks.Nodup → ks[j]? = some m → j < us.length → putF m v (ks.zip us) = ks.zip (us.set j v) := fun {ks} => by
          induction ks with
          | nil => intro us j _ e _; simp at e
          | cons k0 ks ih =>
            intro us j nd e hj
            cases us with
            | nil => simp at hj
            | cons u us =>
              cases j with
              | zero =>
                simp at e
                subst e
                rw [List.zip_cons_cons]
                unfold putF
                rw [if_pos rfl]
                rfl
              | succ j =>
                simp at e
                rw [List.zip_cons_cons]
                unfold putF
                have hk : ¬ k0 = m := fun z => (List.nodup_cons.mp nd).1 (z ▸ List.mem_of_getElem? e)
                rw [if_neg hk, ih (List.nodup_cons.mp nd).2 e (by simpa using hj)]
                rfl
        have put2 : ∀ {ks : List Str} {us : List V}, ks.Nodup → ks[us.length]? = some m → putF m v (ks.zip us) = ks.zip (us ++ [v]) := fun {ks} => by
          induction ks with
          | nil => intro us _ e; simp at e
          | cons k0 ks ih =>
            intro us nd e
            cases us with
            | nil =>
              simp at e
              subst e
              cases ks <;> rfl
            | cons u us =>
              simp at e
              rw [List.zip_cons_cons]
              unfold putF
              have hk : ¬ k0 = m := fun z => (List.nodup_cons.mp nd).1 (z ▸ List.mem_of_getElem? e)
              rw [if_neg hk, ih (List.nodup_cons.mp nd).2 e]
              rfl
        have few : ((I.fl c').zip vs).length < 1000 := by rw [List.length_zip]; omega
        split at e
        · rename_i hlt
          cases e
          have lo : ∀ u ∈ ws.set i x, u.low k' := fun u m => by
            rcases List.mem_or_eq_of_mem_set m with m | m
            · exact s.low _ _ hc u m
            · subst m
              exact W.lowB_of hlo
          have pset : ∀ {as : List W} {bs : List V} (n : Nat), RepWs I M (mask S M H) as bs → RepWs I M (mask S M H) (as.set n x) (bs.set n v) := fun {as bs} n r => by
            induction r generalizing n with
            | nil => exact .nil
            | cons r t ih =>
              cases n with
              | zero => exact .cons rx t
              | succ n => exact .cons r (ih n)
          obtain ⟨s', l'⟩ := s.write (o := .ins C dx (putF m v ((I.fl c').zip vs))) (c' := .ins c' (ws.set i x)) hc ea (by intro z; cases z) (by intro z; cases z) lo ⟨C, dx, vs.set i v, g, by rw [put hn hm (by rw [← hl]; exact hlt)], by simpa using l, pset i q⟩
          exact ⟨a, C, dx, _, rfl, g, h, few, k _ l' s'⟩
        · split at e
          · rename_i heq
            cases e
            have lo : ∀ u ∈ ws ++ [x], u.low k' := fun u m => by
              rcases List.mem_append.mp m with m | m
              · exact s.low _ _ hc u m
              · have : u = x := by simpa using m
                subst this
                exact W.lowB_of hlo
            obtain ⟨s', l'⟩ := s.write (o := .ins C dx (putF m v ((I.fl c').zip vs))) (c' := .ins c' (ws ++ [x])) hc ea (by intro z; cases z) (by intro z; cases z) lo ⟨C, dx, vs ++ [v], g, by rw [put2 hn (by rw [← hl, ← heq]; exact hm)], by
              rw [List.length_append, ← hl, ← heq]
              exact hi, RepWs.app q (.cons rx .nil)⟩
            exact ⟨a, C, dx, _, rfl, g, h, few, k _ l' s'⟩
          · cases e
      · cases e
    · cases e
  · cases e
theorem ss_fld {v : Expr} {dv : DE} {f : Str} {c i : Nat} {pos' : Pos} (t : Cok J X w F Fi k) (hm : (J.sg.fl c)[i]? = some f) (hn : (J.sg.fl c).Nodup) (hf : (J.sg.fl c).length < 1000) (ho : PE X o (rdE (J.inf X.K) w d_o)) (hv : PE X v (rdE (J.inf X.K) w dv)) (hs : swapsWith v (some (.Attribute o f pos')) pos.line X.env = pure false := by rfl) :
    PS X (.Assign [.Attribute o f pos'] v pos) (rdS (J.inf X.K) w (sFldD c i dv d_o)) := PS_imp (ps_fld ho hv hs) fun D σ H q => by
    obtain ⟨e, S, M, s, sl, p⟩ := q
    refine rdS_at s sl p fun x vx S1 M1 H1 l1 s1 sl1 r1 p1 => ?_
    refine rdS_at s1 sl1 p1 fun y vy S2 M2 H2 l2 s2 sl2 r2 p2 => ?_
    split at p2
    · obtain ⟨a, C, dx, fs, e1, g, e2, e3, e4⟩ := setAt_at (Q := D.nx σ) hm hn hf s2 r2 (r1.mono l2) (by assumption) fun H' l' s' => p2 σ H' M2 l' s' (sl2.mono l')
      exact ⟨a, C, dx, fs, e1, e2, t.cls c C g, t.nat c C f g (List.mem_of_getElem? hm), e3, e4⟩
    · exact p2.elim
theorem isLc_ty {I : Inf} {S : Sto} {M : List Addr} {H : Hp} {x : W} {v : V} (s : Sim I S M H) (r : RepW I M (mask S M H) x v) (h : isLc x S = true) : tyV I.K "list" v H := by
  unfold isLc at h
  split at h
  · split at h
    · obtain ⟨a, ea, rfl⟩ := r
      obtain ⟨vs, ho, q⟩ := s.cell _ _ a (by assumption) ea
      exact Or.inl ⟨rfl, _, Or.inl (Or.inl ho)⟩
    · cases h
  · cases h
theorem app_at {S S' : Sto} {M : List Addr} {H : Hp} {y x : W} {vy v : V} {Q : VK} (s : Sim I S M H) (ry : RepW I M (mask S M H) y vy) (rx : RepW I M (mask S M H) x v) (e : app y x S = some S')
    (k : ∀ H', Le S M H S' M H' → Sim I S' M H' → Q .non H') : rAppend vy [v] H Q := by
  unfold app at e
  split at e
  · split at e
    · split at e
      · rename_i k' _ ws hc hh
        cases e
        obtain ⟨a, ea, rfl⟩ := ry
        obtain ⟨vs, ho, q⟩ := s.cell _ _ a hc ea
        have lo : ∀ u ∈ ws ++ [x], u.low k' := fun u m => by
          rcases List.mem_append.mp m with m | m
          · exact s.low _ _ hc u m
          · have : u = x := by simpa using m
            subst this
            exact W.lowB_of hh.1
        obtain ⟨s', l'⟩ := s.write (o := .lst (vs ++ [v])) (c' := .lst (ws ++ [x])) hc ea (by intro z; cases z) (by intro z; cases z) lo ⟨_, rfl, RepWs.app q (.cons rx .nil)⟩
        exact ⟨a, vs, v, rfl, rfl, ho, by rw [← Paired.length q]; exact hh.2, k _ l' s'⟩
      · cases e
    · cases e
  · cases e
theorem sx_app {v : Expr} {dv : DE} {apos cpos : Pos} (ho : PE X o (rdE ⟨X.K, I.G, I.fl, I.X, I.ex⟩ w d_o)) (hv : PE X v (rdE ⟨X.K, I.G, I.fl, I.X, I.ex⟩ w dv)) (hbase : attributeBase o "append" X.env (eval o X.env) = eval o X.env := by rfl)
    (hs1 : starEach [v] X.env = (false, eval v X.env) :: starEach [] X.env := by rfl)
    (hfew : ((backTo cpos (starEach [v] X.env)).all (fun x => !x.1) && (backToKw cpos (keywordEach [] X.env)).all (fun x => x.1.isSome)
      && decide ([v].length + ([] : List Keyword).length + (if ([] : List Keyword).isEmpty then 0 else 1) < 30)) = true := by rfl)
    (hline : (apos.endLine == cpos.line) = true := by rfl) (hplain : (backTo cpos (starEach [] X.env)).any (·.1) = false := by rfl) :
    PE X (.Call (.Attribute o "append" apos) [v] [] cpos) (rdE ⟨X.K, I.G, I.fl, I.X, I.ex⟩ w (dApp d_o dv)) :=
  PE_imp (pe_bm PySem.F.plainAttrs_list PySem.F.slot_list_append PySem.F.type_list_append mt_append ho (pa_cons hv pa_nil hs1) hbase hfew hline hs1 hplain) fun σ H Q q => by
    obtain ⟨e, S, M, s, sl, p⟩ := q
    refine ⟨e, S, M, s, sl, (EndR.bind (rel1 := RepW ⟨X.K, I.G, I.fl, I.X, I.ex⟩) p).imp fun v1 H1 ⟨x, S1, M1, l1, s1, r1, p1⟩ => ?_⟩
    split at p1
    · rename_i hx
      refine ⟨isLc_ty s1 r1 hx, e, S1, M1, s1, sl.mono l1, (EndR.bind (rel1 := RepW ⟨X.K, I.G, I.fl, I.X, I.ex⟩) p1).imp fun v2 H2 ⟨y, S2, M2, l2, s2, r2, p2⟩ => ?_⟩
      split at p2
      · exact app_at s2 (r1.mono l2) r2 (by assumption) fun H' l' s' => p2 .non H' M2 l' s' .non
      · exact p2.elim
    · exact p1.elim
end
end Py

/-! Py10: loops, comprehensions, what they walk. -/
namespace Py
open PySem PySem.Spec PyProof.Rows L2
section
variable {J : Jn} {X : Cx} {I : Inf} {w : WX} {F Fi : FnTab} {k : Nat} {a b c e o tg iter elt : Expr} {es rest : List Expr} {da db dc d_o el : DE} {dr : DA} {ta : DT} {pos p p2 : Pos} {st : Stmt} {sts sts' : List Stmt} {ds dt : DS} {di : DI} {g : GT} {vs : List Nat}
theorem uns_slots {M : List Addr} {H : Hp} {env : Env} {σ : L2.St} (s : Slots I M H env σ) : ∀ ks : List Nat, Slots I M H (uns ks env) σ
  | [] => s
  | i :: l => (uns_slots s l).unset
theorem uns_wipe {M : List Addr} {H : Hp} {env : Env} {σ : L2.St} (s : Slots I M H env σ) : ∀ ks : List Nat, Slots I M H (uns ks env) (wipe σ ks)
  | [] => s
  | i :: l => by
    have h := uns_wipe s l
    refine ⟨by show ((uns l env).set i none).length = ((wipe σ l).set i none).length; simp [h.len], fun j u e => ?_⟩
    have e : ((uns l env).set i none)[j]? = some (some u) := e
    show ∃ v, ((wipe σ l).set i none)[j]? = some (some v) ∧ _
    rw [List.getElem?_set] at e ⊢
    by_cases q : i = j
    · rw [if_pos q] at e
      split at e
      · simp at e
      · cases e
    · rw [if_neg q] at e ⊢
      exact h.get j u e
/-- a while: the fuel is its measure -/
theorem ss_while {n : Nat} {ks : List Nat} (t : Cok J X w F Fi k) (hc : PT X c (rdT I w ta)) (hb : PSs X sts (rdS I w ds)) : PS X (.While c sts [] pos) (rdS I w (sWhile n ks ta ds)) :=
  PS_imp (ps_while t.po hc hb) fun D σ H ⟨env, S, M, s, sl, p⟩ => by
    refine ⟨fun m σ H => ∃ (env : Env) (S : Sto) (M : List Addr), Sim I S M H ∧ Slots I M (mask S M H) env σ ∧ EndS I S M H D w (whileL ks ta ds m env S), ⟨n, env, S, M, s, sl, p⟩, fun m σ H ⟨env, S, M, s, sl, p⟩ => ?_⟩
    cases m with
    | zero => exact p.elim
    | succ m =>
      unfold whileL at p
      refine ⟨uns ks env, S, M, s, uns_slots sl ks, ?_⟩
      generalize ta (uns ks env) S = r at p ⊢
      cases r with
      | bad => exact p
      | exc c x S1 => exact fun cls dd H' M' l' s' r' => p cls dd σ H' M' l' s' ((uns_slots sl ks).mono l') r'
      | ok c S1 =>
        intro b H1 M1 l1 s1 hb
        subst hb
        have p1 : EndS I S1 M1 H1 D w (if c = true then (match ds (uns ks env) S1 with
          | .nx e2 S2 => whileL ks ta ds m e2 S2
          | .ct e2 S2 => whileL ks ta ds m e2 S2
          | .bk e2 S2 => .nx (uns ks e2) S2
          | r => r) else .nx (uns ks env) S1) := EndS.up (r := if c = true then _ else _) p l1
        have sl1 := (uns_slots sl ks).mono l1
        split at p1
        · rename_i hc
          rw [if_pos hc]
          refine ⟨fun σ' H' => ∃ (env : Env) (S : Sto) (M : List Addr), Sim I S M H' ∧ Slots I M (mask S M H') env σ' ∧ EndS I S M H' D w (whileL ks ta ds m env S), fun σ' H' h => ⟨m, Nat.lt_succ_self _, h⟩, uns ks env, S1, M1, s1, sl1, ?_⟩
          generalize ds (uns ks env) S1 = r at p1 ⊢
          cases r with
          | nx e2 S2 => exact fun σ' H' M' l' s' sl' => ⟨e2, S2, M', s', sl', EndS.up p1 l'⟩
          | ct e2 S2 => exact fun σ' H' M' l' s' sl' => ⟨e2, S2, M', s', sl', EndS.up p1 l'⟩
          | bk e2 S2 => exact fun σ' H' M' l' s' sl' => p1 σ' H' M' l' s' (uns_slots sl' ks)
          | rt w S2 => exact p1
          | exc c x e2 S2 => exact p1
          | bad => exact p1
        · rename_i hc
          rw [if_neg hc]
          exact p1 σ H1 M1 Le.refl s1 sl1
/-- what J gives: the items xs, while gd holds of the store (Hs: the part of the heap that the store speaks of) -/
structure WalkI (I : Inf) (J : It) (xs : List W) (gd : Sto → Prop) (S : Sto) (M : List Addr) (H : Hp) : Prop where
  item : ∀ (S2 : Sto) (M2 : List Addr) (Hs H2 : Hp), Le S M H S2 M2 Hs → Sim I S2 M2 Hs → Ex Hs H2 → gd S2 → ∀ (i : Nat) (x : W), xs[i]? = some x → J.go i H2 ∧ ∀ v H3, J.yld i H2 v H3 →
    (H3 = H2 ∧ RepW I M2 (mask S2 M2 Hs) x v) ∨ ∃ (T : Addr) (us : List V) (ys : List D), H2 T = none ∧ H3 = upd H2 T (.tup us) ∧ v = .ref T ∧ x = .d (.tup ys) ∧ Reps I (mask S2 M2 Hs) ys us
  stop : ∀ (S2 : Sto) (M2 : List Addr) (Hs H2 : Hp), Le S M H S2 M2 Hs → Sim I S2 M2 Hs → Ex Hs H2 → gd S2 → J.stop xs.length H2
def rdI (I : Inf) (w : WX) (d : DI) : TI := fun σ H R => ∃ (env : Env) (S : Sto) (M : List Addr), Sim I S M H ∧ Slots I M (mask S M H) env σ ∧ (match d env S with
  | .ok p S' => ∀ (J : It) (H' : Hp) (M' : List Addr), Le S M H S' M' H' → Sim I S' M' H' → WalkI I J p.1 p.2 S' M' H' → R J H'
  | .exc c x S' => ∀ (cls : Value) (dd : Option Addr) (H' : Hp) (M' : List Addr), Le S M H S' M' H' → Sim I S' M' H' → RepX I (mask S' M' H') c x cls dd → w cls dd σ H'
  | .bad => False)
theorem PI_imp {t t' : TI} (h : PI X tg iter t) (i : ∀ σ H R, t' σ H R → t σ H R) : PI X tg iter t' := ⟨fun pins s σ H R I q => h.run pins s σ H R I (i σ H R q)⟩
theorem ss_for {ks : List Nat} (t : Cok J X w F Fi k) (hi : PI X tg iter (rdI I w di)) (hg : PG X tg (rdG I g vs)) (hb : PSs X sts (rdS I w ds)) (hs : ∀ x, foldedSetIterable iter X.env x = pure x := by intro _; rfl) : PS X (.For tg iter sts [] pos) (rdS I w (sFor ks g di ds)) :=
  PS_imp (ps_for t.po t.calm hi hg hb hs) fun D σ H ⟨env, S, M, s, sl, p⟩ => by
    refine ⟨env, S, M, s, sl, ?_⟩
    unfold sFor at p
    generalize di env S = r at p ⊢
    cases r with
    | bad => exact p
    | exc c x S1 => exact fun cls dd H' M' l' s' r' => p cls dd σ H' M' l' s' (sl.mono l') r'
    | ok q S1 =>
      obtain ⟨xs, gd⟩ := q
      intro J1 H1 M1 l1 s1 wk
      have p : EndS I S M H D w (forL ks g ds gd xs env S1) := p
      refine ⟨fun i m σ' H' => ∃ (env' : Env) (S' : Sto) (M' : List Addr), m = xs.length - i ∧ i ≤ xs.length ∧ Le S1 M1 H1 S' M' H' ∧ Sim I S' M' H' ∧ Slots I M' (mask S' M' H') env' σ' ∧ EndS I S' M' H' D w (forL ks g ds gd (xs.drop i) env' S'),
        ⟨_, env, S1, M1, rfl, Nat.zero_le _, Le.refl, s1, sl.mono l1, EndS.up p l1⟩, fun i m σ' H' ⟨env', S', M', hm, hi, l', s', sl', p'⟩ => ?_⟩
      rcases Nat.lt_or_ge i xs.length with hlt | hge
      · right
        rw [List.drop_eq_getElem_cons hlt] at p'
        unfold forL at p'
        split at p'
        · rename_i hgd
          obtain ⟨hgo, hy⟩ := wk.item S' M' H' H' l' s' (Ex.refl _) hgd i _ (List.getElem?_eq_getElem hlt)
          refine ⟨hgo, fun σ2 H2 => ∃ (env' : Env) (S' : Sto) (M' : List Addr), Le S1 M1 H1 S' M' H2 ∧ Sim I S' M' H2 ∧ Slots I M' (mask S' M' H2) env' σ2 ∧ EndS I S' M' H2 D w (forL ks g ds gd (xs.drop (i + 1)) env' S'),
            fun σ2 H2 ⟨env', S', M', a1, a2, a3, a4⟩ => ⟨_, by omega, env', S', M', rfl, hlt, a1, a2, a3, a4⟩, fun v H3 hyl => ?_⟩
          obtain ⟨s3, l3, r3⟩ : Sim I S' M' H3 ∧ Le S' M' H' S' M' H3 ∧ RepW I M' (mask S' M' H3) xs[i] v := by
            rcases hy v H3 hyl with ⟨rfl, r3⟩ | ⟨T, us, ys, nT, rfl, rfl, ex, rs⟩
            · exact ⟨s', Le.refl, r3⟩
            · obtain ⟨a1, a2⟩ := s'.new (o := .tup us) nT
              rw [ex]
              exact ⟨a1, a2, .tup (.inl (.inl (mask_new s' nT))) (rs.mono a2.ex)⟩
          have sl3 := (uns_slots sl' ks).mono l3
          split at p'
          · exact p'.elim
          · rename_i e1 he1
            refine ⟨_, _, S', M', s3, sl3, r3, e1, he1, fun σ4 sl4 _ => ⟨e1, S', M', s3, sl4, ?_⟩⟩
            have p' := EndS.up p' l3
            have l4 := l'.trans l3
            generalize ds e1 S' = r at p' ⊢
            cases r with
            | nx e2 S2 => exact fun σ' H' M' l' s' sl' => ⟨e2, S2, M', l4.trans l', s', sl', EndS.up p' l'⟩
            | ct e2 S2 => exact fun σ' H' M' l' s' sl' => ⟨e2, S2, M', l4.trans l', s', sl', EndS.up p' l'⟩
            | bk e2 S2 => exact fun σ' H' M' l' s' sl' => p' σ' H' M' l' s' (uns_slots sl' ks)
            | rt w S2 => exact p'
            | exc c x e2 S2 => exact p'
            | bad => exact p'
        · exact p'.elim
      · left
        have hi' : i = xs.length := by omega
        subst hi'
        rw [List.drop_length] at p'
        unfold forL at p'
        split at p'
        · rename_i hgd
          exact ⟨wk.stop S' M' H' H' l' s' (Ex.refl _) hgd, p' σ' H' M' Le.refl s' (uns_slots sl' ks)⟩
        · exact p'.elim
/-! ### a list aside -/
def era (H : Hp) (D : Addr) : Hp := fun a => if a = D then none else H a
theorem era_same {H : Hp} {D : Addr} : era H D D = none := by unfold era; rw [if_pos rfl]
theorem era_ne {H : Hp} {D a : Addr} (h : a ≠ D) : era H D a = H a := by unfold era; rw [if_neg h]
theorem era_upd {H : Hp} {D : Addr} {o : HO} (h : H D = none) : era (upd H D o) D = H := by
  funext a
  by_cases e : a = D
  · rw [e, era_same, h]
  · rw [era_ne e, upd_ne e]
theorem inv_aside {pins : List (Addr × Obj)} {σ : L2.St} {H : Hp} {s : Shared} {D : Addr} {xs : List V} (In : Inv X pins σ H s) (h : H D = some (.lst xs)) :
    (∀ o, X.s_0.heap.get? D = some o → X.H_0 D = none → D ∉ X.ex → False) ∧ (∀ p ∈ X.pn ++ pins, p.1 ≠ D) ∧ ∃ (its : List Value) (n : Nat), Vals xs its ∧ xs.length ≤ sizeLine ∧ Inv X (pins ++ [(D, { cls := .type "list", data := .seq its.toArray n })]) σ (era H D) s := by
  obtain ⟨its, n, r, e, z⟩ := In.lst h
  refine ⟨fun o e1 e2 e3 => ?_, fun p hp q => ?_, ?_⟩
  · have := In.base.free D o e1 e2 e3
    rw [h] at this
    cases this
  · obtain ⟨_, a2, _⟩ := In.pin p hp
    rw [q, h] at a2
    cases a2
  have sub : ∀ b, H b = none → era H D b = none := fun b e => by
    by_cases q : b = D
    · rw [q]; exact era_same
    · rw [era_ne q]; exact e
  have nD : ∀ b o, H b = some o → (∀ ys, o ≠ .lst ys) → b ≠ D := fun b o e n q => by
    rw [q, h] at e
    cases e
    exact n xs rfl
  have keepsome : ∀ b o, H b = some o → (∀ ys, o ≠ .lst ys) → era H D b = some o := fun b o e n => by rw [era_ne (nD b o e n)]; exact e
  refine ⟨its, n, r, z, ⟨In.ok, In.os, In.bare, ⟨In.base.keep, In.base.slot, fun b o q n hx => sub b (In.base.free b o q n hx), In.base.there, fun b ys q => keepsome _ _ (In.base.tups b ys q) (by intro ys z; cases z), fun b o u q => keepsome _ _ (In.base.frzs b o u q) (by intro ys z; cases z),
    fun b ps q => ?_⟩, In.loc, In.cell, sub _ In.free, fun x c q => sub _ (In.freeC x c q), fun p hp => ?_, fun b o q => ?_, In.len⟩⟩
  · obtain ⟨more, z⟩ := In.base.tbls b ps q
    exact ⟨more, keepsome _ _ z (by intro ys z; cases z)⟩
  · rcases List.mem_append.mp (by simpa using hp : p ∈ (X.pn ++ pins) ++ [(D, ({ cls := .type "list", data := .seq its.toArray n } : Obj))]) with hp | hp
    · obtain ⟨a1, a2, a3, a4, a5⟩ := In.pin p hp
      exact ⟨a1, sub _ a2, a3, a4, a5⟩
    · have : p = (D, ({ cls := .type "list", data := .seq its.toArray n } : Obj)) := by simpa using hp
      subst this
      refine ⟨e, era_same, fun q => ?_, fun q => ?_, fun v q => by cases q⟩
      · have := In.free
        rw [← q] at this
        rw [h] at this
        cases this
      · obtain ⟨_, o, ho, _⟩ := In.ok.funs.mem q
        have := In.base.free D o ho (In.ok.frf D q) fun z => In.ok.exfs D z q
        rw [h] at this
        cases this
  · by_cases q' : b = D
    · rw [q', era_same] at q
      cases q
    · rw [era_ne q'] at q
      exact (In.hok b o q).stay (fun _ _ _ q => q) (fun c q => keepsome _ _ q (by intro ys z; cases z)) fun c ys q => keepsome _ _ q (by intro ys z; cases z)
theorem inv_back {pins : List (Addr × Obj)} {σ : L2.St} {H : Hp} {s : Shared} {D : Addr} {xs : List V} {its : List Value} {n : Nat} (h1 : ∀ o, X.s_0.heap.get? D = some o → X.H_0 D = none → D ∉ X.ex → False) (h2 : ∀ p ∈ X.pn ++ pins, p.1 ≠ D) (r : Vals xs its) (z : xs.length ≤ sizeLine)
    (In : Inv X (pins ++ [(D, { cls := .type "list", data := .seq its.toArray n })]) σ H s) : H D = none ∧ Inv X pins σ (upd H D (.lst xs)) s := by
  obtain ⟨p1, p2, p3, p4, p5⟩ := In.pin (D, { cls := .type "list", data := .seq its.toArray n }) (by simp)
  have p2 : H D = none := p2
  have p3 : D ≠ X.env.locals := p3
  have p1 : s.heap.get? D = some { cls := .type "list", data := .seq its.toArray n } := p1
  have up : ∀ b o, H b = some o → upd H D (.lst xs) b = some o := fun b o e => by rw [upd_ne (ne_of_none e p2)]; exact e
  refine ⟨p2, ⟨In.ok, In.os, In.bare, ⟨In.base.keep, In.base.slot, fun b o q n hx => ?_, In.base.there, fun b ys q => up _ _ (In.base.tups b ys q), fun b o u q => up _ _ (In.base.frzs b o u q), fun b ps q => ?_⟩, In.loc, In.cell, ?_, fun x c q => ?_, fun p hp => ?_, fun b o q => ?_, In.len⟩⟩
  · have e := In.base.free b o q n hx
    by_cases q' : b = D
    · subst q'
      exact (h1 o q n hx).elim
    · rw [upd_ne q']; exact e
  · obtain ⟨more, z⟩ := In.base.tbls b ps q
    exact ⟨more, up _ _ z⟩
  · rw [upd_ne (Ne.symm p3)]
    exact In.free
  · rw [upd_ne]
    · exact In.freeC x c q
    · intro z
      obtain ⟨v, o, ho, hd⟩ := In.cell x c q
      rw [z, p1] at ho
      cases ho
      cases hd
  · obtain ⟨a1, a2, a3, a4, a5⟩ := In.pin p (by
      rcases List.mem_append.mp hp with h | h
      · exact List.mem_append_left _ h
      · exact List.mem_append_right _ (List.mem_append_left _ h))
    exact ⟨a1, by rw [upd_ne (h2 p hp)]; exact a2, a3, a4, a5⟩
  · by_cases q' : b = D
    · subst q'
      rw [upd_same] at q
      cases q
      exact ⟨z, its, n, r, p1⟩
    · rw [upd_ne q'] at q
      exact (In.hok b o q).stay (fun _ _ _ q => q) (fun c q => up _ _ q) fun c ys q => up _ _ q
theorem wipe_wipe (σ : L2.St) (own : List Nat) : wipe (wipe σ own) own = wipe σ own := by
  have h : ∀ (l : List Nat) (τ : L2.St), (∀ i ∈ l, i ∈ own) → wipe (wipe τ l) own = wipe τ own := fun l => by
    induction l with
    | nil => intro τ _; rfl
    | cons i l ih =>
      intro τ hh
      show wipe ((wipe τ l).set i none) own = wipe τ own
      rw [wipe_set (hh i (by simp))]
      exact ih τ fun j hj => hh j (by simp [hj])
  exact h own σ fun _ h => h
theorem PE_aside {t : TE} (h : PE X e t) : PE X e (fun σ H Q => ∃ (D : Addr) (xs : List V), H D = some (.lst xs) ∧ t σ (era H D) fun y H' => H' D = none → Q y (upd H' D (.lst xs))) := by
  refine ⟨fun pins s σ H Q In ⟨D, xs, hD, q⟩ => ?_⟩
  obtain ⟨h1, h2, its, n, r, z, I1⟩ := inv_aside In hD
  refine thn (h.run _ s σ _ _ I1 q) fun v s1 ⟨x, H', I2, rx, q2⟩ => ?_
  obtain ⟨n2, I3⟩ := inv_back h1 h2 r z I2
  exact ⟨x, _, I3, rx, q2 n2⟩
theorem PTs_aside {ifs : List Expr} {t : TT} (h : PTs X ifs t) : PTs X ifs (fun σ H Q => ∃ (D : Addr) (xs : List V), H D = some (.lst xs) ∧ t σ (era H D) fun y H' => H' D = none → Q y (upd H' D (.lst xs))) := by
  refine ⟨fun pins s σ H Q In ⟨D, xs, hD, q⟩ => ?_⟩
  obtain ⟨h1, h2, its, n, r, z, I1⟩ := inv_aside In hD
  refine thn (h.run _ s σ _ _ I1 q) fun v s1 ⟨H', I2, q2⟩ => ?_
  obtain ⟨n2, I3⟩ := inv_back h1 h2 r z I2
  exact ⟨_, I3, q2 n2⟩
theorem PG_aside {t : TG} (h : PG X e t) : PG X e (fun v σ H Q => ∃ (D : Addr) (xs : List V), H D = some (.lst xs) ∧ t v σ (era H D) fun σ' H' => H' D = none → Q σ' (upd H' D (.lst xs))) := by
  refine ⟨fun pins s σ H v u Q In rv ⟨D, xs, hD, q⟩ => ?_⟩
  obtain ⟨h1, h2, its, n, r, z, I1⟩ := inv_aside In hD
  refine thn (h.run _ s σ _ v u _ I1 rv q) fun _ s1 ⟨σ', H', I2, q2⟩ => ?_
  obtain ⟨n2, I3⟩ := inv_back h1 h2 r z I2
  exact ⟨σ', _, I3, q2 n2⟩
theorem compL_noexc (gd : Sto → Prop) (env : Env) : ∀ (xs : List W) (S : Sto), (∃ ws S', compL g ta el gd env xs S = .ok ws S') ∨ compL g ta el gd env xs S = .bad
  | [], S => by
    unfold compL
    split
    · exact .inl ⟨_, _, rfl⟩
    · exact .inr rfl
  | x :: xs, S => by
    unfold compL
    split
    · split
      · exact .inr rfl
      · rename_i e1 _
        generalize ta e1 S = r1
        cases r1 with
        | bad => exact .inr rfl
        | exc c x S1 => exact .inr rfl
        | ok c S1 =>
          show (∃ ws S', (if c = true then _ else _) = R.ok ws S') ∨ (if c = true then _ else _) = R.bad
          split
          · generalize el e1 S1 = r2
            cases r2 with
            | bad => exact .inr rfl
            | exc c x S1 => exact .inr rfl
            | ok y S2 =>
              show (∃ ws S', (compL g ta el gd env xs S2).bind _ = R.ok ws S') ∨ (compL g ta el gd env xs S2).bind _ = R.bad
              rcases compL_noexc gd env xs S2 with ⟨ws, S', e⟩ | e
              · rw [e]; exact .inl ⟨_, _, rfl⟩
              · rw [e]; exact .inr rfl
          · exact compL_noexc gd env xs S1
    · exact .inr rfl
/-- how a comprehension's list ends up -/
inductive CFin (I : Inf) : (List W → Sto → R W) → Prop
  | plain : CFin I fun ws S2 => if ws.length ≤ 16777216 then (match plainL ws with
    | some xs => .ok (.d (.lst xs)) S2
    | none => .bad) else .bad
  | cell : CFin I fun ws S2 => if ws.length ≤ 16777216 then .ok (.c S2.length) (S2 ++ [.lst ws]) else .bad
theorem CFin.end_ {fin : List W → Sto → R W} (c : CFin I fin) {ws : List W} {us : List V} {S : Sto} {M : List Addr} {H : Hp} {D : Addr} {Q : VK} {E : XK} (s : Sim I S M H) (r : RepWs I M (mask S M H) ws us) (nD : H D = none)
    (p : EndR I S M H (RepW I) Q E (fin ws S)) : Q (.ref D) (upd H D (.lst us)) := by
  cases c with
  | plain =>
    dsimp only at p
    split at p
    · split at p
      · rename_i xs hx
        exact new_d p s nD fun H' h ex => .lst h ((plainL_rep r hx).mono ex)
      · exact p.elim
    · exact p.elim
  | cell =>
    dsimp only at p
    split at p
    · exact new_c p s nD (lows_of s r) ⟨us, rfl, r⟩ (by intro z; cases z)
    · exact p.elim
theorem CFin.len {fin : List W → Sto → R W} (c : CFin I fin) {ws : List W} {S : Sto} (h : fin ws S ≠ .bad) : ws.length ≤ 16777216 := by
  cases c with
  | plain =>
    dsimp only at h
    split at h
    · assumption
    · exact absurd rfl h
  | cell =>
    dsimp only at h
    split at h
    · assumption
    · exact absurd rfl h
abbrev aT (t : TT) : TT := fun σ H Q => ∃ (D : Addr) (xs : List V), H D = some (.lst xs) ∧ t σ (era H D) fun y H' => H' D = none → Q y (upd H' D (.lst xs))
abbrev aE (t : TE) : TE := fun σ H Q => ∃ (D : Addr) (xs : List V), H D = some (.lst xs) ∧ t σ (era H D) fun y H' => H' D = none → Q y (upd H' D (.lst xs))
abbrev aG (t : TG) : TG := fun v σ H Q => ∃ (D : Addr) (xs : List V), H D = some (.lst xs) ∧ t v σ (era H D) fun σ' H' => H' D = none → Q σ' (upd H' D (.lst xs))
theorem comp_rd {own : List Nat} {fin : List W → Sto → R W} (c : CFin I fin) (hv : ∀ i ∈ vs, i ∈ own) {σ : L2.St} {H : Hp} {Q : VK}
    (q : rdE I w (fun e S => (di e S).bind fun p S1 => (compL g ta el p.2 (uns own e) p.1 S1).bind fin) σ H Q) : tLc (rdI I w di) (aG (rdG I g vs)) (aT (rdT I w0 ta)) (aE (rdE I w0 el)) own σ H Q := by
  obtain ⟨env, S, M, s, sl, p⟩ := q
  refine ⟨env, S, M, s, sl, ?_⟩
  dsimp only at p
  generalize di env S = r at p ⊢
  cases r with
  | bad => exact p
  | exc c x S1 => exact p
  | ok qq S1 =>
    obtain ⟨xs, gd⟩ := qq
    intro J1 H1 M1 l1 s1 wk D nD
    have p : EndR I S1 M1 H1 (RepW I) Q (fun cls dd H' => w cls dd σ H') ((compL g ta el gd (uns own env) xs S1).bind fin) := EndR.up (r := (compL g ta el gd (uns own env) xs S1).bind fin) p l1
    have sl1 := sl.mono l1
    refine ⟨fun i m H' => ∃ (S' : Sto) (M' : List Addr) (Hs : Hp) (accW : List W) (acc : List V), H' = upd Hs D (.lst acc) ∧ Hs D = none ∧ m = xs.length - i ∧ i ≤ xs.length ∧ Le S1 M1 H1 S' M' Hs ∧ Sim I S' M' Hs ∧ RepWs I M' (mask S' M' Hs) accW acc ∧
      EndR I S' M' Hs (RepW I) Q (fun cls dd H' => w cls dd σ H') ((compL g ta el gd (uns own env) (xs.drop i) S').bind fun ys S3 => fin (accW ++ ys) S3),
      ⟨_, S1, M1, H1, [], [], rfl, nD, rfl, Nat.zero_le _, Le.refl, s1, .nil, p⟩, fun i m H' ⟨S', M', Hs, accW, acc, eH, nDs, hm, hi, l', s', ra, p'⟩ => ?_⟩
    subst eH
    have exs : Ex Hs (upd Hs D (.lst acc)) := fun a o e => by rw [upd_ne (ne_of_none e nDs)]; exact e
    rcases Nat.lt_or_ge i xs.length with hlt | hge
    · right
      rw [List.drop_eq_getElem_cons hlt] at p'
      have hbad : compL g ta el gd (uns own env) (xs[i] :: xs.drop (i + 1)) S' ≠ .bad := fun z => by rw [z] at p'; exact p'
      have e0 := compL.eq_def g ta el gd (uns own env) (xs[i] :: xs.drop (i + 1)) S'
      dsimp only at e0
      have hgd : gd S' := by
        by_cases z : gd S'
        · exact z
        · rw [if_neg z] at e0
          exact absurd e0 hbad
      rw [if_pos hgd] at e0
      rw [e0] at p'
      clear e0 hbad
      obtain ⟨hgo, hy⟩ := wk.item S' M' Hs _ l' s' exs hgd i _ (List.getElem?_eq_getElem hlt)
      refine ⟨hgo, fun H2 => ∃ (S' : Sto) (M' : List Addr) (Hs : Hp) (accW : List W) (acc : List V), H2 = upd Hs D (.lst acc) ∧ Hs D = none ∧ Le S1 M1 H1 S' M' Hs ∧ Sim I S' M' Hs ∧ RepWs I M' (mask S' M' Hs) accW acc ∧
        EndR I S' M' Hs (RepW I) Q (fun cls dd H' => w cls dd σ H') ((compL g ta el gd (uns own env) (xs.drop (i + 1)) S').bind fun ys S3 => fin (accW ++ ys) S3),
        fun H2 ⟨S', M', Hs, accW, acc, a1, a2, a3, a4, a5, a6⟩ => ⟨_, by omega, S', M', Hs, accW, acc, a1, a2, rfl, hlt, a3, a4, a5, a6⟩, fun v H3 hyl => ?_⟩
      -- the item
      obtain ⟨Hs3, e3, nD3, s3, l3, r3⟩ : ∃ Hs3, H3 = upd Hs3 D (.lst acc) ∧ Hs3 D = none ∧ Sim I S' M' Hs3 ∧ Le S' M' Hs S' M' Hs3 ∧ RepW I M' (mask S' M' Hs3) xs[i] v := by
        rcases hy v H3 hyl with ⟨rfl, r3⟩ | ⟨T, us, ys, nT, rfl, rfl, ex, rs⟩
        · exact ⟨Hs, rfl, nDs, s', Le.refl, r3⟩
        · have TD : T ≠ D := fun z => by rw [z, upd_same] at nT; cases nT
          have nT' : Hs T = none := by rw [upd_ne TD] at nT; exact nT
          obtain ⟨a1, a2⟩ := s'.new (o := .tup us) nT'
          refine ⟨upd Hs T (.tup us), ?_, by rw [upd_ne (Ne.symm TD)]; exact nDs, a1, a2, ?_⟩
          · funext a
            by_cases z1 : a = T
            · rw [z1, upd_same, upd_ne TD, upd_same]
            · rw [upd_ne z1]
              by_cases z2 : a = D
              · rw [z2, upd_same, upd_same]
              · rw [upd_ne z2, upd_ne z2, upd_ne z1]
          · rw [ex]
            exact .tup (.inl (.inl (mask_new s' nT'))) (rs.mono a2.ex)
      subst e3
      refine ⟨D, acc, upd_same, ?_⟩
      rw [era_upd nD3]
      have slb : Slots I M' (mask S' M' Hs3) (uns own env) (wipe σ own) := uns_wipe ((sl1.mono l').mono l3) own
      split at p'
      · exact p'.elim
      rename_i e1 he1
      refine ⟨_, _, S', M', s3, slb, r3, e1, he1, fun σ2 sl2 hw nD4 => ⟨by rw [hw own hv]; exact wipe_wipe _ _, D, acc, upd_same, ?_⟩⟩
      rw [era_upd nD4]
      have p' := EndR.up p' l3
      refine ⟨e1, S', M', s3, sl2, ?_⟩
      generalize ta e1 S' = rt at p' ⊢
      cases rt with
      | bad => exact p'.elim
      | exc c x S2 => exact p'.elim
      | ok cc S2 =>
        intro b H4 M4 l4 s4 eb nD5
        subst eb
        have p' : EndR I S' M' Hs3 (RepW I) Q (fun cls dd H' => w cls dd σ H') ((if cc = true then ((el e1 S2).ne.bind fun y S2 => (compL g ta el gd (uns own env) (xs.drop (i + 1)) S2).bind fun ys S3 => .ok (y :: ys) S3) else compL g ta el gd (uns own env) (xs.drop (i + 1)) S2).bind fun ys S3 => fin (accW ++ ys) S3) := p'
        have p' := EndR.up p' l4
        have l5 := (l'.trans l3).trans l4
        cases cc with
        | false =>
          exact ⟨S2, M4, H4, accW, acc, rfl, nD5, l5, s4, (ra.mono l3).mono l4, p'⟩
        | true =>
          refine ⟨D, acc, upd_same, ?_⟩
          rw [era_upd nD5]
          refine ⟨e1, S2, M4, s4, sl2.mono l4, ?_⟩
          have p' : EndR I S2 M4 H4 (RepW I) Q (fun cls dd H' => w cls dd σ H') (((el e1 S2).ne.bind fun y S2 => (compL g ta el gd (uns own env) (xs.drop (i + 1)) S2).bind fun ys S3 => .ok (y :: ys) S3).bind fun ys S3 => fin (accW ++ ys) S3) := p'
          generalize el e1 S2 = re at p' ⊢
          cases re with
          | bad => exact p'.elim
          | exc c x S3 => exact p'.elim
          | ok y S3 =>
            intro vy H6 M6 l6 s6 ry nD6
            have p' : EndR I S2 M4 H4 (RepW I) Q (fun cls dd H' => w cls dd σ H') (((compL g ta el gd (uns own env) (xs.drop (i + 1)) S3).bind fun ys S3 => .ok (y :: ys) S3).bind fun ys S3 => fin (accW ++ ys) S3) := p'
            have p' := EndR.up p' l6
            have ra6 := ((ra.mono l3).mono l4).mono l6
            have hb : ∃ ys S4, compL g ta el gd (uns own env) (xs.drop (i + 1)) S3 = .ok ys S4 ∧ fin (accW ++ y :: ys) S4 ≠ .bad := by
              rcases compL_noexc (g := g) (ta := ta) (el := el) gd (uns own env) (xs.drop (i + 1)) S3 with ⟨ys, S4, e⟩ | e
              · rw [e] at p'
                exact ⟨ys, S4, e, fun z => by
                  have p' : EndR I S3 M6 H6 (RepW I) Q (fun cls dd H' => w cls dd σ H') (fin (accW ++ y :: ys) S4) := p'
                  rw [z] at p'
                  exact p'⟩
              · rw [e] at p'
                exact p'.elim
            obtain ⟨ys, S4, ec, hnb⟩ := hb
            have hlen := c.len hnb
            refine ⟨acc, upd_same, ?_, S3, M6, H6, accW ++ [y], acc ++ [vy], upd_upd, nD6, l5.trans l6, s6, RepWs.app ra6 (.cons ry .nil), ?_⟩
            · rw [sizeLine_eq, ← Paired.length ra6]
              simp at hlen
              omega
            · rw [ec] at p' ⊢
              have : accW ++ [y] ++ ys = accW ++ y :: ys := by simp
              show EndR I S3 M6 H6 (RepW I) Q (fun cls dd H' => w cls dd σ H') (fin (accW ++ [y] ++ ys) S4)
              rw [this]
              exact p'
    · left
      have hi' : i = xs.length := by omega
      subst hi'
      rw [List.drop_length] at p'
      unfold compL at p'
      split at p'
      · rename_i hgd
        have p' : EndR I S' M' Hs (RepW I) Q (fun cls dd H' => w cls dd σ H') (fin (accW ++ []) S') := p'
        rw [List.append_nil] at p'
        exact ⟨wk.stop S' M' Hs _ l' s' exs hgd, c.end_ s' ra nDs p'⟩
      · exact p'.elim
end
end Py

/-! Py11: what a loop walks; comprehensions as values and stored. -/
namespace Py
open PySem PySem.Spec PyProof.Rows L2
/-- the items of a list, tuple or text, and what must stay of the store -/
@[simp] def itemsOf : W → Sto → Option (List W × (Sto → Prop))
  | .d (.str x), _ => some (x.cps.toList.map fun c => .d (.str ⟨#[c]⟩), fun _ => True)
  | .d (.tup xs), _ => some (xs.map W.d, fun _ => True)
  | .d (.lst xs), _ => some (xs.map W.d, fun _ => True)
  | .d (.lsx xs), _ => some (xs.map W.d, fun _ => True)
  | .c i, S => match S[i]? with
    | some (.lst ws) => some (ws, fun S' => S'[i]? = some (.lst ws))
    | _ => none
  | _, _ => none
@[simp] def iAny (a : DE) : DI := fun e S => (a e S).bind fun x S1 => match itemsOf x S1 with
  | some p => .ok p S1
  | none => .bad
def rng (lo hi : Int) : List W := (List.range (hi - lo).toNat).map fun (i : Nat) => W.d (.int (lo + i))
@[simp] def smallI (i : Int) : Bool := decide (-(2 ^ 62) ≤ i) && decide (i < 2 ^ 62)
@[simp] def ofO {α : Type} (o : Option α) (S : Sto) : R α := match o with
  | some a => .ok a S
  | none => .bad
@[simp] def rg1 : W → Option (List W × (Sto → Prop))
  | .d (.int n) => if smallI n = true then some (rng 0 n, fun _ => True) else none
  | _ => none
@[simp] def rg2 : W → W → Option (List W × (Sto → Prop))
  | .d (.int m), .d (.int n) => if smallI m = true ∧ smallI n = true then some (rng m n, fun _ => True) else none
  | _, _ => none
/-- lo, lo - 1, .. above hi -/
def rngD (lo hi : Int) : List W := (List.range (lo - hi).toNat).map fun (i : Nat) => W.d (.int (lo - i))
@[simp] def rg3 : W → W → W → Option (List W × (Sto → Prop))
  | .d (.int m), .d (.int n), .d (.int q) => if smallI m = true ∧ smallI n = true ∧ q = -1 then some (rngD m n, fun _ => True) else none
  | _, _, _ => none
@[simp] def iRange1 (a : DE) : DI := fun e S => (a e S).bind fun x S1 => ofO (rg1 x) S1
@[simp] def iRange2 (a b : DE) : DI := fun e S => (a e S).bind fun x S1 => (b e S1).bind fun y S2 => ofO (rg2 x y) S2
@[simp] def iRange3 (a b c : DE) : DI := fun e S => (a e S).bind fun x S1 => (b e S1).bind fun y S2 => (c e S2).bind fun z S3 => ofO (rg3 x y z) S3
/-! reversed of a text -/
theorem norev_str : typeLookup (.type "str") "__reversed__" = pure none := by rw [typeLookup_type, builtinLookup_eq_fast]; kernel_rfl
theorem get_str : typeLookup (.type "str") "__getitem__" = pure (some (.builtin "str.__getitem__")) := by rw [typeLookup_type, builtinLookup_eq_fast]; kernel_rfl
theorem str_nodict : isSubtype (.type "str") (.type "dict") = pure false := by rw [isSubtype_type]; kernel_rfl
def rsObj (x : Str) (t : Tok) (i : Int) : Obj := { cls := .type "reversed", data := .fields #[.str x t, rawInt i] }
def IsRs (h : Heap) (a : Addr) (x : Str) (t : Tok) (i : Int) : Prop := ∃ o, h.get? a = some o ∧ o.cls = .type "reversed" ∧ o.data = .fields #[.str x t, rawInt i]
theorem IsRs.at {h h' : Heap} {a : Addr} {x : Str} {t : Tok} {i : Int} (z : IsRs h a x t i) (e : ∀ o, h.get? a = some o → h'.get? a = some o) : IsRs h' a x t i := let ⟨o, ho, r⟩ := z; ⟨o, e _ ho, r⟩
section
variable {prog : Program} {w : World} {A : Around} {E : Value → Shared → Prop} {s : Shared}
theorem IsRs.typeIs {a : Addr} {x : Str} {t : Tok} {i : Int} (z : IsRs s.heap a x t i) : s.TypeIs (.ref a) "reversed" := let ⟨o, ho, hc, _⟩ := z; ⟨o, ho, hc⟩
theorem code_reversed_str {x : Str} {t : Tok} {Q₁ : Value → Shared → Prop} (hfit : ¬ (x.length : Int) ≥ 2 ^ 63)
    (h : Q₁ (.ref s.heap.objs.size) { s with heap := s.heap.push (rsObj x t ((x.length : Int) - 1)), toks := s.toks + 1 + 1 }) :
    codeAny (model prog w) A (.call (.builtin "reversed.__new__") ⟨[.type "reversed", .str x t], []⟩) (wants Q₁ E) s := by
  have hT : s.TypeIs (.str x t) "str" := typeIs_str s x t
  refine codeAny_of_tree ?_
  show wpAny _ A.in1 (do checkBuiltinCall "reversed.__new__" ⟨[.type "reversed", .str x t], []⟩; again (.builtin "reversed.__new__" ⟨[.type "reversed", .str x t], []⟩)) _ _ s
  refine wpAny_bind (wpAny_of_eq (F.newCall_reversed_1 _) (wpAny_pure ⟨plainId_quiet F.plain_reversed_new _, codeAny_builtin F.entry_reversed_new ?_⟩))
  rw [Around.under_plainId F.plain_reversed_new _]
  unfold Builtin.«reversed.__new__»
  refine wpAny_bind (wpAny_of_eq (newClass_reversed _) ?_)
  try dsimp only
  refine wpAny_bind (wpAny_of_eq (a := ()) (by first | rfl | kernel_rfl) ?_)
  try dsimp only
  refine wpAny_bind (wpAny_of_eq (a := ()) (by first | rfl | kernel_rfl) ?_)
  try dsimp only
  refine wpAny_bind (wpAny_specialOf hT norev_str ?_)
  try dsimp only
  refine wpAny_bind ?_
  wp_delta
  refine wpAny_bind (wpAny_isInstance (T := "str") (U := "dict") (b := false) hT str_nodict ?_)
  try dsimp only
  try rw [if_neg Bool.false_ne_true]
  try dsimp only
  refine wpAny_bind (wpAny_specialOf hT get_str ?_)
  try dsimp only
  try rw [if_pos (by decide +kernel)]
  refine wpAny_pure ?_
  try dsimp only
  try rw [if_neg (by decide)]
  try dsimp only
  refine wpAny_bind (P.len_str hfit ?_)
  refine wpAny_bind (wpAny_of_eq (a := some ((x.length : Nat) : Int)) rfl ?_)
  try dsimp only
  refine wpAny_bind ?_
  show wpAny _ _ (newObj (.type "reversed") (.fields #[.str x t, rawInt ((x.length : Int) - 1)])) _ _ _
  refine wpAny_newObj_type ?_
  exact wpAny_pure h
theorem call_reversed_str {x : Str} {t : Tok} {Q : Value → Shared → Prop} (hfit : ¬ (x.length : Int) ≥ 2 ^ 63)
    (h : Q (.ref s.heap.objs.size) { s with heap := s.heap.push (rsObj x t ((x.length : Int) - 1)), toks := s.toks + 1 + 1 }) : wpAny (model prog w) A (call (.type "reversed") [.str x t]) Q E s := by
  refine callType_codes (Q₁ := fun obj s₁ => s₁.TypeIs obj "reversed" ∧ Q obj s₁) RT.called_rt (F.typeCall_reversed_1 _) F.entry_object_init
    (code_reversed_str (A := A.in1) hfit ⟨⟨_, Heap.get?_push_size _ rfl, rfl⟩, h⟩) fun obj s₁ h₁ => ?_
  exact ⟨h₁.1, F.args_object_init_2 obj _, object_init_meets RT.called_rt.init.lookup RT.called_rt.made (by decide) prog w A.in1 _ s₁ ⟨h₁.1, rfl, h₁.2⟩⟩
theorem next_rs_item {it : Addr} {x : Str} {t : Tok} {i c : Nat} {Q : Option Value → Shared → Prop} (hit : IsRs s.heap it x t (i : Int)) (hx : x.cps[i]? = some c) (hsz : x.length ≤ sizeLine)
    (hQ : ∀ h', IsRs h' it x t ((i : Int) - 1) → Heap.SameBut it s.heap h' → Q (some (.str ⟨#[c]⟩ (s.toks + 1))) { s with heap := h', toks := s.toks + 1 + 1 }) : wpAny (model prog w) A (pyNext (.ref it)) Q E s := by
  obtain ⟨o, ho, hc, hd⟩ := id hit
  have hi : i < x.length := (Array.getElem?_eq_some_iff.mp hx).1
  have hT : s.TypeIs (.str x t) "str" := typeIs_str s x t
  rw [sizeLine_eq] at hsz
  unfold pyNext
  refine wpAny_bind (wpAny_attempt (wpAny_callSpecial?_slot (name := Str.ofString "__next__") hit.typeIs RT.slot_rt_next
    (wpAny_call_entry RT.slot_rt_next hit.typeIs RT.entry_rt_next ?_ (RT.args_rt_next _))))
  unfold Builtin.«reversed.__next__»
  refine wpAny_bind (wpAny_of_eq (a := (Value.ref it, [])) rfl ?_)
  try dsimp only
  refine wpAny_bind (wpAny_field ho hd (x := .str x t) rfl ?_)
  try dsimp only
  refine wpAny_bind (wpAny_field ho hd (x := rawInt (i : Int)) rfl ?_)
  show wpAny _ _ (if (i : Int) < 0 then _ else _) _ _ s
  rw [if_neg (by omega)]
  try dsimp only
  refine wpAny_bind (wpAny_specialOf hT get_str ?_)
  try dsimp only
  try rw [if_neg (by decide)]
  try dsimp only
  refine wpAny_bind (wpAny_mkInt ?_)
  refine wpAny_bind (wpAny_attempt ?_)
  have fin : (seqIndex? (i : Int) x.length).bind (x.cps[·]?) = some c := by
    rw [seqIndex_of (by omega) (by omega)]
    exact hx
  refine P.getItem_str (s := { s with toks := s.toks + 1 }) (by simp; omega) fin ?_
  try dsimp only
  refine wpAny_bind (wpAny_field (s := { s with toks := s.toks + 1 + 1 }) ho hd (x := rawInt (i : Int)) rfl ?_)
  try dsimp only
  refine wpAny_bind (wpAny_setField (s := { s with toks := s.toks + 1 + 1 }) ho hd (by simp) ?_)
  first
  | refine wpAny_pure ⟨_, rfl, wpAny_pure (hQ _ ?_ (Heap.SameBut.update ..))⟩
  | refine wpAny_bind (wpAny_pure (wpAny_pure ⟨_, rfl, wpAny_pure (hQ _ ?_ (Heap.SameBut.update ..))⟩))
  exact ⟨_, Heap.get?_update_self _ ho (Obj.isFreed_of_fields (Obj.data_mapFields hd _)), (Obj.cls_mapFields ..).trans hc, by
    rw [Obj.data_mapFields hd]; simp⟩
theorem next_rs_end {it : Addr} {x : Str} {t : Tok} {Q : Option Value → Shared → Prop} (hh : A.handled = none) (hit : IsRs s.heap it x t (-1))
    (hQ : ∀ h', Heap.ExtBut it s.heap h' → Q none { s with heap := h' }) : wpAny (model prog w) A (pyNext (.ref it)) Q E s := by
  obtain ⟨o, ho, hc, hd⟩ := id hit
  unfold pyNext
  refine wpAny_bind (wpAny_attempt (wpAny_callSpecial?_slot (name := Str.ofString "__next__") hit.typeIs RT.slot_rt_next
    (wpAny_call_entry RT.slot_rt_next hit.typeIs RT.entry_rt_next ?_ (RT.args_rt_next _))))
  unfold Builtin.«reversed.__next__»
  refine wpAny_bind (wpAny_of_eq (a := (Value.ref it, [])) rfl ?_)
  try dsimp only
  refine wpAny_bind (wpAny_field ho hd (x := .str x t) rfl ?_)
  try dsimp only
  refine wpAny_bind (wpAny_field ho hd (x := rawInt (-1)) rfl ?_)
  show wpAny _ _ (if (-1 : Int) < 0 then _ else _) _ _ s
  rw [if_pos (by decide)]
  try dsimp only
  refine wpAny_bind (wpAny_rule ?_)
  refine wpAny_bind ?_
  wp_delta
  refine wpAny_bind (wpAny_setField ho hd (by simp) ?_)
  have ho2 := Heap.get?_update_self (Obj.mapFields (·.setIfInBounds 1 (rawInt (-1)))) ho (Obj.isFreed_of_fields (Obj.data_mapFields hd _))
  refine wpAny_setField (s := { s with heap := s.heap.update it (Obj.mapFields (·.setIfInBounds 1 (rawInt (-1)))) }) ho2 (Obj.data_mapFields hd _) (by simp) ?_
  try dsimp only
  first
  | show wpAny _ _ (newExc (.type "StopIteration") [] >>= _) _ _ _
  | (refine wpAny_bind ?_; show wpAny _ _ (newExc (.type "StopIteration") [] >>= _) _ _ _)
  | (refine wpAny_bind ?_; wp_delta; show wpAny _ _ (newExc (.type "StopIteration") [] >>= _) _ _ _)
  refine wpAny_bind ?_
  simp only [newExc, newTuple]
  refine wpAny_bind (wpAny_newObj_type ?_ (by size_fits))
  refine wpAny_bind (m := firstArgMember _ _) (wpAny_of_eq (a := Value.none) (by first | rfl | (simp only [firstArgMember]; rfl)) ?_)
  refine wpAny_newObj_type ?_ (by size_fits)
  simp only [raiseNew]
  refine wpAny_bind (wpAny_handled ?_)
  first | rw [show A.in1.handled = none from hh] | rw [hh]
  refine wpAny_bind (wpAny_pure (wpAny_throw ?_))
  refine wpAny_bind (wpAny_isInstance (T := "StopIteration") (b := true) ⟨_, Heap.get?_push_size _ rfl, rfl⟩ isSubtype_stop ?_)
  refine wpAny_pure (hQ _ ?_)
  refine ((?_ : Heap.ExtBut it s.heap _).push _).push _
  exact fun b ob hb e => (Heap.get?_update_other _ _ (Ne.symm hb)).trans ((Heap.get?_update_other _ _ (Ne.symm hb)).trans e)
theorem iter_rs {it : Addr} {x : Str} {t : Tok} {i : Int} {Q : Value → Shared → Prop} (hit : IsRs s.heap it x t i) (h : Q (.ref it) s) : wpAny (model prog w) A (pyIter (.ref it)) Q E s := by
  refine wpAny_pyIter_slot hit.typeIs RT.slot_rt_iter (wpAny_call_entry RT.slot_rt_iter hit.typeIs RT.entry_rt_iter ?_ (RT.args_rt_iter _))
  show wpAny _ _ (ret (.ref it)) _ _ s
  exact wpAny_pure ⟨_, rfl, "reversed", _, hit.typeIs, RT.slot_rt_next.lookup, h⟩
end
def ItvS (x : Str) : It := ⟨fun i _ => i < x.length, fun i H v H' => H' = H ∧ ∃ c, x.cps[x.length - 1 - i]? = some c ∧ v = .str ⟨#[c]⟩, fun i _ => x.length ≤ i⟩
theorem turn_rs {P : Program} {w : World} {K : PySem.W.Frag} {tg : Expr} (it : Addr) (x : Str) (t : Tok) (hsz : x.length ≤ sizeLine) : Turn P w K tg (ItvS x) [it] it (fun i h => i ≤ x.length ∧ IsRs h it x t ((x.length : Int) - 1 - (i : Nat))) where
  mem := by simp
  obj := fun i h st b hb => by
    have e : b = it := by simpa using hb
    subst e
    obtain ⟨_, o, e, c, d⟩ := st
    exact ⟨o, e, fun v z => by rw [d] at z; cases z⟩
  keep := fun i h h' st k => ⟨st.1, st.2.at fun o e => k it (by simp) o e⟩
  item := by
    intro X hP hw hK hc i pins s σ H E I hf st hg
    subst hP hw hK
    have hin : i < x.length := hg
    have hlt : x.length - 1 - i < x.cps.size := by have : x.length = x.cps.size := rfl; omega
    obtain ⟨c, hx⟩ : ∃ c, x.cps[x.length - 1 - i]? = some c := ⟨_, Array.getElem?_eq_getElem hlt⟩
    obtain ⟨f0, f1, f2, f3, f4, f5⟩ := hf it (by simp)
    obtain ⟨_, hit⟩ := st
    have e1 : (x.length : Int) - 1 - ((i : Nat) : Int) = ((x.length - 1 - i : Nat) : Int) := by omega
    rw [e1] at hit
    refine next_rs_item hit hx hsz fun h' st' sb => ?_
    have e2 : ((x.length - 1 - i : Nat) : Int) - 1 = (x.length : Int) - 1 - ((i + 1 : Nat) : Int) := by omega
    rw [e2] at st'
    have I1 : Inv X pins σ H { s with heap := h', toks := s.toks + 1 + 1 } := I.turned (t' := s.toks + 1 + 1) (fun b o hb e => (sb.2 b hb).trans e) f0 f1 f3 f4 f5
    obtain ⟨o, e, c', d⟩ := id st'
    exact ⟨_, rfl, go_of (s := { s with heap := h', toks := s.toks + 1 + 1 }) e c' d (by decide) ⟨.str ⟨#[c]⟩, H, I1, ⟨_, rfl⟩, ⟨rfl, c, hx, rfl⟩, ⟨hin, st'⟩, fun b hb => (hf b hb).1⟩⟩
  done := by
    intro X hP hw hK hc i pins s σ H E I hf st hg
    subst hP hw hK
    obtain ⟨f0, f1, f2, f3, f4, f5⟩ := hf it (by simp)
    obtain ⟨hin, hit⟩ := st
    have hge : x.length ≤ i := hg
    have e1 : (x.length : Int) - 1 - ((i : Nat) : Int) = -1 := by omega
    rw [e1] at hit
    exact next_rs_end (I.ok.hd hc) hit fun h' eb => ⟨rfl, I.turned (t' := s.toks) (fun b o hb e => eb b o hb e) f0 f1 f3 f4 f5⟩
  self := fun A i s Q E st h => iter_rs st.2 h
def iRevB (K : PySem.W.Frag) (te : TE) : TI := fun σ H R => te σ H fun v H1 => (∃ x : Str, v = .str x ∧ x.length ≤ sizeLine ∧ R (ItvS x) H1) ∨ ∃ (a : Addr) (xs : List V), v = .ref a ∧ ((SqL K H1 a xs ∧ R (Itv K a xs.length) H1) ∨ (SqT K H1 a xs ∧ R (RT.ItvT K a xs.length) H1))
section
variable {X : Cx} {tg : Expr}
theorem pi_revB {e : Expr} {te : TE} {p pos : Pos} (hg : Gl X "reversed") (hm : X.mg "reversed" = none) (he : PE X e te) (hs : starEach [e] X.env = (false, eval e X.env) :: starEach [] X.env := by rfl) : PI X tg (.Call (.Name "reversed" p) [e] [] pos) (iRevB X.K te) := by
  refine ⟨fun pins s σ H R I h => ?_⟩
  refine Call_ (ld_blt I hg hm PyProof.Rows.boot_reversed (PyProof.Rows.callWith_type1 (args_cons (thn (he.run pins s σ H _ I h) fun u s1 ⟨v, H1, I1, r1, q1⟩ => args_nil ?_) hs) hs rfl))
  rcases q1 with ⟨x, ev, hz, q⟩ | ⟨a, xs, ev, q⟩
  · subst ev
    obtain ⟨t, rfl⟩ := r1
    have hn := line63
    refine call_reversed_str (by omega) (iter_rs (x := x) (t := t) (i := (x.length : Int) - 1) ⟨_, Heap.get?_push_size _ rfl, rfl, rfl⟩ ?_)
    refine pi_one (tk := s1.toks + 1 + 1) I1 _ (turn_rs _ x t hz) ⟨Nat.zero_le _, ?_⟩ q
    have e1 : (x.length : Int) - 1 = (x.length : Int) - 1 - ((0 : Nat) : Int) := by omega
    rw [← e1]
    exact ⟨_, Heap.get?_push_size _ rfl, rfl, rfl⟩
  subst ev
  obtain rfl : u = Value.ref a := r1
  rcases q with ⟨hq, q⟩ | ⟨hq, q⟩
  · obtain ⟨its, rv, p', hz⟩ := I1.list hq
    have hl := rv.length
    have e1 : ((its.toArray.size : Nat) : Int) - 1 = (xs.length : Int) - 1 - ((0 : Nat) : Int) := by simp only [List.size_toArray]; omega
    refine call_reversed_list p'.isList (wpAny_pyIter_revIter (l := a) (i := ((its.toArray.size : Nat) : Int) - 1) ⟨_, Heap.get?_push_size _ rfl, rfl, rfl⟩ ?_)
    refine pi_one (tk := s1.toks) I1 _ (turn_rev a _ xs.length) ⟨Nat.zero_le _, ?_⟩ q
    rw [← e1]
    exact ⟨_, Heap.get?_push_size _ rfl, rfl, rfl⟩
  · obtain ⟨its, rv, p', hz⟩ := I1.tuple hq
    have hl := rv.length
    have hn := line63
    have e1 : ((its.toArray.size : Nat) : Int) - 1 = (xs.length : Int) - 1 - ((0 : Nat) : Int) := by simp only [List.size_toArray]; omega
    refine RT.call_reversed_tup p' (fun A E Q k => len_tuple p' (by simp only [List.size_toArray] <;> omega) k) (RT.iter_rt (t := a) (i := ((its.toArray.size : Nat) : Int) - 1) ⟨_, Heap.get?_push_size _ rfl, rfl, rfl⟩ ?_)
    refine pi_one (tk := s1.toks + 1 + 1) I1 _ (RT.turn_rt a _ xs.length) ⟨Nat.zero_le _, ?_⟩ q
    rw [← e1]
    exact ⟨_, Heap.get?_push_size _ rfl, rfl, rfl⟩
end
section
variable {J : Jn} {X : Cx} {I : Inf} {w : WX} {F Fi : FnTab} {k : Nat} {a b c e o tg iter elt : Expr} {es rest ifs : List Expr} {da db dc d_o el : DE} {dr : DA} {ta : DT} {pos p p2 : Pos} {st : Stmt} {sts sts' : List Stmt} {ds dt : DS} {di : DI} {g : GT} {vs : List Nat} {scope : Scope} {own : List (Str × Nat)}
theorem wk_list {a : Addr} {xs : List W} {gd : Sto → Prop} {S : Sto} {M : List Addr} {H : Hp} (h : ∀ S2 M2 Hs, Le S M H S2 M2 Hs → Sim I S2 M2 Hs → gd S2 → ∃ vs, SqL I.K Hs a vs ∧ RepWs I M2 (mask S2 M2 Hs) xs vs) : WalkI I (Itl I.K a) xs gd S M H where
  item := fun S2 M2 Hs H2 l s ex hg i x hx => by
    obtain ⟨vs, h1, h2⟩ := h S2 M2 Hs l s hg
    obtain ⟨v, e1, e2⟩ := paired_get h2 hx
    refine ⟨⟨vs, v, ex_l ex h1, e1⟩, fun u H3 hy => .inl ⟨hy.1, ?_⟩⟩
    have := hy.2 vs (ex_l ex h1)
    rw [e1] at this
    cases this
    exact e2
  stop := fun S2 M2 Hs H2 l s ex hg => by
    obtain ⟨vs, h1, h2⟩ := h S2 M2 Hs l s hg
    exact ⟨vs, ex_l ex h1, by rw [Paired.length h2]; exact Nat.le_refl _⟩
theorem wk_tup {a : Addr} {xs : List W} {gd : Sto → Prop} {S : Sto} {M : List Addr} {H : Hp} (h : ∀ S2 M2 Hs, Le S M H S2 M2 Hs → Sim I S2 M2 Hs → gd S2 → ∃ vs, SqT I.K Hs a vs ∧ RepWs I M2 (mask S2 M2 Hs) xs vs) : WalkI I (Itt I.K a) xs gd S M H where
  item := fun S2 M2 Hs H2 l s ex hg i x hx => by
    obtain ⟨vs, h1, h2⟩ := h S2 M2 Hs l s hg
    obtain ⟨v, e1, e2⟩ := paired_get h2 hx
    refine ⟨⟨vs, v, ex_t ex h1, e1⟩, fun u H3 hy => .inl ⟨hy.1, ?_⟩⟩
    have := hy.2 vs (ex_t ex h1)
    rw [e1] at this
    cases this
    exact e2
  stop := fun S2 M2 Hs H2 l s ex hg => by
    obtain ⟨vs, h1, h2⟩ := h S2 M2 Hs l s hg
    exact ⟨vs, ex_t ex h1, by rw [Paired.length h2]; exact Nat.le_refl _⟩
theorem wk_str {z : Str} {gd : Sto → Prop} {S : Sto} {M : List Addr} {H : Hp} : WalkI I (Its z) (z.cps.toList.map fun c => .d (.str ⟨#[c]⟩)) gd S M H where
  item := fun S2 M2 Hs H2 l s ex hg i x hx => by
    rw [List.getElem?_map] at hx
    cases q : z.cps.toList[i]? with
    | none => rw [q] at hx; cases hx
    | some c =>
      rw [q] at hx
      have hx : W.d (.str ⟨#[c]⟩) = x := by simpa using hx
      subst hx
      have q' : z.cps[i]? = some c := by rw [← Array.getElem?_toList]; exact q
      refine ⟨(Array.getElem?_eq_some_iff.mp q').1, fun u H3 hy => .inl ⟨hy.1, ?_⟩⟩
      obtain ⟨c', e1, rfl⟩ := hy.2
      rw [q'] at e1
      cases e1
      exact .str _
  stop := fun S2 M2 Hs H2 l s ex hg => by
    show z.cps.size ≤ _
    simp
theorem rng_get {lo : Int} {n : Nat} {i : Nat} {x : W} {f : Nat → Int} (h : ((List.range n).map fun (i : Nat) => W.d (.int (f i)))[i]? = some x) : i < n ∧ x = .d (.int (f i)) := by
  rw [List.getElem?_map] at h
  by_cases hi : i < n
  · rw [List.getElem?_range hi] at h
    exact ⟨hi, by simpa using h.symm⟩
  · rw [List.getElem?_eq_none (by simpa using hi)] at h
    cases h
theorem wk_range {lo hi : Int} {gd : Sto → Prop} {S : Sto} {M : List Addr} {H : Hp} : WalkI I (Itr lo (hi - lo).toNat) (rng lo hi) gd S M H where
  item := fun S2 M2 Hs H2 l s ex hg i x hx => by
    obtain ⟨h1, rfl⟩ := rng_get (lo := lo) (f := fun i => lo + i) hx
    refine ⟨h1, fun u H3 hy => .inl ⟨hy.1, ?_⟩⟩
    rw [hy.2]
    exact .int _
  stop := fun S2 M2 Hs H2 l s ex hg => by
    show _ ≤ _
    simp [rng]
theorem wk_rangeD {lo hi : Int} {gd : Sto → Prop} {S : Sto} {M : List Addr} {H : Hp} : WalkI I (Itc lo (-1) (lo - hi).toNat) (rngD lo hi) gd S M H where
  item := fun S2 M2 Hs H2 l s ex hg i x hx => by
    obtain ⟨h1, rfl⟩ := rng_get (lo := lo) (f := fun i => lo - i) hx
    refine ⟨h1, fun u H3 hy => .inl ⟨hy.1, ?_⟩⟩
    rw [hy.2]
    have : lo + (i : Nat) * (-1 : Int) = lo - (i : Nat) := by omega
    rw [this]
    exact .int _
  stop := fun S2 M2 Hs H2 l s ex hg => by
    show _ ≤ _
    simp [rngD]
/-- an iterator over what a value is -/
theorem iter_any {pins : List (Addr × Obj)} {σ : L2.St} {H : Hp} {s : Shared} {x : W} {v : V} {u : Value} {S : Sto} {M : List Addr} {R : It → Hp → Prop} {E : Value → Shared → Prop} {q : List W × (Sto → Prop)} (In : Inv X pins σ H s) (rv : RelV v u) (sim : Sim ⟨X.K, I.G, I.fl, I.X, I.ex⟩ S M H) (rx : RepW ⟨X.K, I.G, I.fl, I.X, I.ex⟩ M (mask S M H) x v) (e : itemsOf x S = some q)
    (k : ∀ J, WalkI ⟨X.K, I.G, I.fl, I.X, I.ex⟩ J q.1 q.2 S M H → R J H) : wpAny (model X.prog X.w) X.A (pyIter u) (PIE X pins σ tg R) E s := by
  have lst : ∀ {a : Addr} {xs : List V}, SqL X.K H a xs → R (Itl X.K a) H → wpAny (model X.prog X.w) X.A (pyIter (.ref a)) (PIE X pins σ tg R) E s := fun {a xs} hq q => by
    obtain ⟨its, rv, p, hz⟩ := In.list hq
    refine wpAny_pyIter_list p.isList ?_
    refine ⟨s.heap.objs.size, [s.heap.objs.size], _, _, H, rfl, In.kept (t' := s.toks) fun b o e => Heap.get?_push_of_some _ e, turn_list a _, ⟨_, Heap.get?_push_size _ rfl, rfl, rfl⟩, fun b hb => ?_, q⟩
    have e : b = s.heap.objs.size := by simpa using hb
    subst e
    exact In.fpOk (Nat.le_refl _) (In.hok.fresh (Nat.le_refl _))
  unfold itemsOf at e
  split at e
  · cases e
    cases rx
    obtain ⟨t, rfl⟩ := rv
    rename_i z
    cases ha : z.cps.all (· < 128)
    · exact wpAny_pyIter_wide ha (pi_one (tk := s.toks) In _ (turn_str _ z t "str_iterator" (.inr rfl)) ⟨_, Heap.get?_push_size _ rfl, rfl, rfl⟩ (k _ wk_str))
    · exact wpAny_pyIter_ascii ha (pi_one (tk := s.toks) In _ (turn_str _ z t "str_ascii_iterator" (.inl rfl)) ⟨_, Heap.get?_push_size _ rfl, rfl, rfl⟩ (k _ wk_str))
  · cases e
    cases rx with
    | tup h r =>
    cases rv
    rename_i a vs
    obtain ⟨its, rv, p, hz⟩ := In.tuple (ex_t mask_ex h)
    refine wpAny_pyIter_tuple (show s.heap.IsTuple a its.toArray from p) ?_
    refine ⟨s.heap.objs.size, [s.heap.objs.size], _, _, H, rfl, In.kept (t' := s.toks) fun b o e => Heap.get?_push_of_some _ e, turn_tuple a _, ⟨_, Heap.get?_push_size _ rfl, rfl, rfl⟩, fun b hb => ?_,
      k _ (wk_tup fun S2 M2 Hs l s2 _ => ⟨vs, ex_t ((l.ex).trans mask_ex) h, reps_map (r.mono l.ex)⟩)⟩
    have e : b = s.heap.objs.size := by simpa using hb
    subst e
    exact In.fpOk (Nat.le_refl _) (In.hok.fresh (Nat.le_refl _))
  · cases e
    cases rx with
    | lst h r =>
    cases rv
    exact lst (.inl (.inl (mask_ex _ _ h))) (k _ (wk_list fun S2 M2 Hs l s2 _ => ⟨_, .inl (.inl (mask_ex _ _ (l.ex _ _ h))), reps_map (r.mono l.ex)⟩))
  · cases e
    cases rx with
    | lsx h r =>
    cases rv
    exact lst (ex_l mask_ex h) (k _ (wk_list fun S2 M2 Hs l s2 _ => ⟨_, ex_l ((l.ex).trans mask_ex) h, reps_map (r.mono l.ex)⟩))
  · split at e
    · rename_i ws hc
      cases e
      obtain ⟨a, ea, rfl⟩ := rx
      cases rv
      obtain ⟨vs, ho, q⟩ := sim.cell _ _ a hc ea
      refine lst (.inl (.inl ho)) (k _ (wk_list fun S2 M2 Hs l s2 hg => ?_))
      obtain ⟨vs2, ho2, q2⟩ := s2.cell _ _ a hg (pre_get l.pre ea)
      exact ⟨vs2, .inl (.inl ho2), q2⟩
    · cases e
  · cases e
theorem si_any (he : PE X e (rdE ⟨X.K, I.G, I.fl, I.X, I.ex⟩ w da)) : PI X tg e (rdI ⟨X.K, I.G, I.fl, I.X, I.ex⟩ w (iAny da)) := by
  refine ⟨fun pins s σ H R In ⟨env, S, M, sim, sl, p⟩ => ?_⟩
  have q : rdE ⟨X.K, I.G, I.fl, I.X, I.ex⟩ w da σ H (fun v H' => ∃ (x : W) (S' : Sto) (M' : List Addr) (q : List W × (Sto → Prop)), Sim ⟨X.K, I.G, I.fl, I.X, I.ex⟩ S' M' H' ∧ RepW ⟨X.K, I.G, I.fl, I.X, I.ex⟩ M' (mask S' M' H') x v ∧ itemsOf x S' = some q ∧ ∀ J, WalkI ⟨X.K, I.G, I.fl, I.X, I.ex⟩ J q.1 q.2 S' M' H' → R J H') := by
    refine ⟨env, S, M, sim, sl, ?_⟩
    dsimp only [iAny] at p
    generalize da env S = r at p ⊢
    cases r with
    | bad => exact p
    | exc c x S1 => exact p
    | ok x S1 =>
      intro v H' M' l s' r
      dsimp only [Py.R.bind] at p
      cases hq : itemsOf x S1 with
      | none => rw [hq] at p; exact p.elim
      | some q =>
        rw [hq] at p
        exact ⟨x, _, M', q, s', r, hq, fun J wk => p J H' M' l s' wk⟩
  exact thn (he.run pins s σ H _ In q) fun u s1 ⟨v, H1, I1, rv, x, S', M', q, s', r, e, k⟩ => iter_any I1 rv s' r e k
theorem sm_of {i : Int} (h : smallI i = true) : -(2 ^ 62) ≤ i ∧ i < 2 ^ 62 := by
  simpa using h
/-- what an ending asks of a walk -/
def EndI (I : Inf) (S : Sto) (M : List Addr) (H : Hp) (R : It → Hp → Prop) (E : XK) : Py.R (List W × (Sto → Prop)) → Prop
  | .ok p S' => ∀ (J : It) (H' : Hp) (M' : List Addr), Le S M H S' M' H' → Sim I S' M' H' → WalkI I J p.1 p.2 S' M' H' → R J H'
  | .exc c x S' => ∀ (cls : Value) (dd : Option Addr) (H' : Hp) (M' : List Addr), Le S M H S' M' H' → Sim I S' M' H' → RepX I (mask S' M' H') c x cls dd → E cls dd H'
  | .bad => False
theorem EndI.up {S S1 : Sto} {M M1 : List Addr} {H H1 : Hp} {R : It → Hp → Prop} {E : XK} {r : Py.R (List W × (Sto → Prop))} (h : EndI I S M H R E r) (l : Le S M H S1 M1 H1) : EndI I S1 M1 H1 R E r := by
  cases r with
  | ok a S' => exact fun J H' M' l' => h J H' M' (l.trans l')
  | exc c x S' => exact fun cls dd H' M' l' => h cls dd H' M' (l.trans l')
  | bad => exact h
theorem rdI_at {σ : L2.St} {env : Env} {S : Sto} {M : List Addr} {H : Hp} {R : It → Hp → Prop} {f : W → Sto → Py.R (List W × (Sto → Prop))} {P : V → Hp → Prop} (s : Sim I S M H) (sl : Slots I M (mask S M H) env σ) (p : EndI I S M H R (fun cls dd H' => w cls dd σ H') ((da env S).bind f))
    (k : ∀ (x : W) (v : V) (S1 : Sto) (M1 : List Addr) (H1 : Hp), Le S M H S1 M1 H1 → Sim I S1 M1 H1 → Slots I M1 (mask S1 M1 H1) env σ → RepW I M1 (mask S1 M1 H1) x v → EndI I S1 M1 H1 R (fun cls dd H' => w cls dd σ H') (f x S1) → P v H1) : rdE I w da σ H P := by
  refine ⟨env, S, M, s, sl, ?_⟩
  generalize da env S = r at p ⊢
  cases r with
  | ok x S1 => exact fun v H' M' l' s' r' => k x v S1 M' H' l' s' (sl.mono l') r' (EndI.up (r := f x S1) p l')
  | exc c x S1 => exact p
  | bad => exact p
theorem EndI.of {S : Sto} {M : List Addr} {H : Hp} {R : It → Hp → Prop} {E : XK} {o : Option (List W × (Sto → Prop))} (h : EndI I S M H R E (ofO o S)) (s : Sim I S M H) : ∃ p, o = some p ∧ ∀ J, WalkI I J p.1 p.2 S M H → R J H := by
  cases o with
  | none => exact h.elim
  | some p => exact ⟨p, rfl, fun J wk => h J H M Le.refl s wk⟩
theorem si_range1 (t : Cok J X w F Fi k) (hb : J.sg.blt "range" = true) (ha : PE X a (rdE (J.inf X.K) w da)) (hg : Gl X "range" := by rfl) (hs : starEach [a] X.env = [(false, eval a X.env)] := by rfl) (hs' : starEach [a] X.env = (false, eval a X.env) :: starEach [] X.env := by rfl) : PI X tg (.Call (.Name "range" p) [a] [] pos) (rdI (J.inf X.K) w (iRange1 da)) :=
  PI_imp (pi_range1 hg (t.glb _ hb) (pa_cons ha pa_nil hs') hs) fun σ H R ⟨env, S, M, sim, sl, p⟩ => by
    show rdE (J.inf X.K) w da σ H fun x H1 => ∃ j : Int, [x] = [.int j] ∧ -(2 ^ 62) ≤ j ∧ j < 2 ^ 62 ∧ R (Itr 0 j.toNat) H1
    refine rdI_at (R := R) (f := fun x S1 => ofO (rg1 x) S1) sim sl p fun x v S1 M1 H1 l1 s1 sl1 r1 p1 => ?_
    obtain ⟨q, hq, kk⟩ := EndI.of p1 s1
    unfold rg1 at hq
    split at hq
    · rename_i n
      split at hq
      · rename_i hn
        cases hq
        cases r1
        have wk : WalkI (J.inf X.K) (Itr 0 (n - 0).toNat) (rng 0 n) (fun _ => True) S1 M1 H1 := wk_range
        rw [Int.sub_zero] at wk
        exact ⟨n, rfl, (sm_of hn).1, (sm_of hn).2, kk _ wk⟩
      · cases hq
    · cases hq
theorem si_range2 (t : Cok J X w F Fi k) (hb : J.sg.blt "range" = true) (ha : PE X a (rdE (J.inf X.K) w da)) (hb' : PE X b (rdE (J.inf X.K) w db)) (hg : Gl X "range" := by rfl) (hs : starEach [a, b] X.env = [(false, eval a X.env), (false, eval b X.env)] := by rfl) (hs2 : starEach [b] X.env = [(false, eval b X.env)] := by rfl)
    (hs' : starEach [a, b] X.env = (false, eval a X.env) :: starEach [b] X.env := by rfl) (hs2' : starEach [b] X.env = (false, eval b X.env) :: starEach [] X.env := by rfl) : PI X tg (.Call (.Name "range" p) [a, b] [] pos) (rdI (J.inf X.K) w (iRange2 da db)) :=
  PI_imp (pi_range2 hg (t.glb _ hb) (pa_cons ha (pa_cons hb' pa_nil hs2') hs') hs hs2) fun σ H R ⟨env, S, M, sim, sl, p⟩ => by
    show rdE (J.inf X.K) w da σ H fun x H1 => rdE (J.inf X.K) w db σ H1 fun y H2 => ∃ i j : Int, [x, y] = [.int i, .int j] ∧ (-(2 ^ 62) ≤ i ∧ i < 2 ^ 62 ∧ -(2 ^ 62) ≤ j ∧ j < 2 ^ 62) ∧ R (Itr i (j - i).toNat) H2
    refine rdI_at (R := R) (f := fun x S1 => (db env S1).bind fun y S2 => ofO (rg2 x y) S2) sim sl p fun x v S1 M1 H1 l1 s1 sl1 r1 p1 => ?_
    refine rdI_at (R := R) (f := fun y S2 => ofO (rg2 x y) S2) s1 sl1 p1 fun y u S2 M2 H2 l2 s2 sl2 r2 p2 => ?_
    obtain ⟨q, hq, kk⟩ := EndI.of p2 s2
    unfold rg2 at hq
    split at hq
    · rename_i m n
      split at hq
      · rename_i hn
        cases hq
        cases r1
        cases r2
        exact ⟨m, n, rfl, ⟨(sm_of hn.1).1, (sm_of hn.1).2, (sm_of hn.2).1, (sm_of hn.2).2⟩, kk _ wk_range⟩
      · cases hq
    · cases hq
theorem si_range3 (t : Cok J X w F Fi k) (hb : J.sg.blt "range" = true) (ha : PE X a (rdE (J.inf X.K) w da)) (hb' : PE X b (rdE (J.inf X.K) w db)) (hc' : PE X c (rdE (J.inf X.K) w dc)) (hg : Gl X "range" := by rfl)
    (hs : starEach [a, b, c] X.env = (false, eval a X.env) :: starEach [b, c] X.env := by rfl) (hpl : (backTo pos (starEach [b, c] X.env)).any (·.1) = false := by rfl)
    (hs2' : starEach [b, c] X.env = (false, eval b X.env) :: starEach [c] X.env := by rfl) (hs3' : starEach [c] X.env = (false, eval c X.env) :: starEach [] X.env := by rfl) : PI X tg (.Call (.Name "range" p) [a, b, c] [] pos) (rdI (J.inf X.K) w (iRange3 da db dc)) :=
  PI_imp (pi_range3 hg (t.glb _ hb) (pa_cons ha (pa_cons hb' (pa_cons hc' pa_nil hs3') hs2') hs) hs hpl) fun σ H R ⟨env, S, M, sim, sl, p⟩ => by
    show rdE (J.inf X.K) w da σ H fun x H1 => rdE (J.inf X.K) w db σ H1 fun y H2 => rdE (J.inf X.K) w dc σ H2 fun z H3 => ∃ (i j c : Int) (n : Nat), [x, y, z] = [.int i, .int j, .int c] ∧ RgC i j c n ∧ R (Itc i c n) H3
    refine rdI_at (R := R) (f := fun x S1 => (db env S1).bind fun y S2 => (dc env S2).bind fun z S3 => ofO (rg3 x y z) S3) sim sl p fun x v S1 M1 H1 l1 s1 sl1 r1 p1 => ?_
    refine rdI_at (R := R) (f := fun y S2 => (dc env S2).bind fun z S3 => ofO (rg3 x y z) S3) s1 sl1 p1 fun y u S2 M2 H2 l2 s2 sl2 r2 p2 => ?_
    refine rdI_at (R := R) (f := fun z S3 => ofO (rg3 x y z) S3) s2 sl2 p2 fun z uz S3 M3 H3 l3 s3 sl3 r3 p3 => ?_
    obtain ⟨q, hq, kk⟩ := EndI.of p3 s3
    unfold rg3 at hq
    split at hq
    · rename_i m n o
      split at hq
      · rename_i hn
        obtain ⟨h1, h2, rfl⟩ := hn
        cases hq
        cases r1
        cases r2
        cases r3
        exact ⟨m, n, -1, _, rfl, RgC.neg (sm_of h1).1 (sm_of h1).2 (sm_of h2).1 (sm_of h2).2, kk _ wk_rangeD⟩
      · cases hq
    · cases hq
/-! ### comprehensions -/
theorem PTs_imp {ifs : List Expr} {t t' : TT} (h : PTs X ifs t) (i : ∀ σ H Q, t' σ H Q → t σ H Q) : PTs X ifs t' := ⟨fun pins s σ H Q I q => h.run pins s σ H Q I (i σ H Q q)⟩
theorem sts_nil : PTs X [] (rdT I w tYesD) := PTs_imp pts_nil fun σ H Q ⟨e, S, M, s, sl, p⟩ => EndR.here (rel := fun _ _ a b => a = b) p s rfl
theorem sts_one (h : PT X a (rdT I w ta)) : PTs X [a] (rdT I w ta) := pts_one h
theorem sx_comp (t : Cok J X w F Fi k) (hi : PI X tg iter (rdI I w di)) (hv : ∀ i ∈ vs, i ∈ own.map (·.2)) (ok : BlkOk X.N X.env.scope scope own)
    (hg : ∀ (s : Shared) (H : Hp) (C : Addr) (cl : List (Str × Addr)) (fp : List Addr), PG (X.blk s H scope (compEnvC scope cl C X.env) fp) tg (rdG I g vs)) (ht : ∀ (s : Shared) (H : Hp) (C : Addr) (cl : List (Str × Addr)) (fp : List Addr), PTs (X.blk s H scope (compEnvC scope cl C X.env) fp) ifs (rdT I w0 ta))
    (he : ∀ (s : Shared) (H : Hp) (C : Addr) (cl : List (Str × Addr)) (fp : List Addr), PE (X.blk s H scope (compEnvC scope cl C X.env) fp) elt (rdE I w0 el)) (hs : ∀ x, foldedSetIterable iter X.env x = pure x := by intro _; rfl) :
    PE X (.ListComp elt [⟨tg, iter, ifs, 0⟩] scope pos) (rdE I w (dComp (own.map (·.2)) g di ta el)) :=
  PE_imp (pe_lc t.calm t.nd hi ok (fun s H C cl fp => PG_aside (hg s H C cl fp)) (fun s H C cl fp => PTs_aside (ht s H C cl fp)) (fun s H C cl fp => PE_aside (he s H C cl fp)) hs) fun σ H Q q => comp_rd .plain hv q
theorem sx_compC (t : Cok J X w F Fi k) (hi : PI X tg iter (rdI I w di)) (hv : ∀ i ∈ vs, i ∈ own.map (·.2)) (ok : BlkOk X.N X.env.scope scope own)
    (hg : ∀ (s : Shared) (H : Hp) (C : Addr) (cl : List (Str × Addr)) (fp : List Addr), PG (X.blk s H scope (compEnvC scope cl C X.env) fp) tg (rdG I g vs)) (ht : ∀ (s : Shared) (H : Hp) (C : Addr) (cl : List (Str × Addr)) (fp : List Addr), PTs (X.blk s H scope (compEnvC scope cl C X.env) fp) ifs (rdT I w0 ta))
    (he : ∀ (s : Shared) (H : Hp) (C : Addr) (cl : List (Str × Addr)) (fp : List Addr), PE (X.blk s H scope (compEnvC scope cl C X.env) fp) elt (rdE I w0 el)) (hs : ∀ x, foldedSetIterable iter X.env x = pure x := by intro _; rfl) :
    PE X (.ListComp elt [⟨tg, iter, ifs, 0⟩] scope pos) (rdE I w (dCompC (own.map (·.2)) g di ta el)) :=
  PE_imp (pe_lc t.calm t.nd hi ok (fun s H C cl fp => PG_aside (hg s H C cl fp)) (fun s H C cl fp => PTs_aside (ht s H C cl fp)) (fun s H C cl fp => PE_aside (he s H C cl fp)) hs) fun σ H Q q => comp_rd .cell hv q
/-- y = [..] -/
theorem ss_comp {i : Nat} {y : Str} {py spos : Pos} {fin : List W → Sto → Py.R W} (c : CFin I fin) (t : Cok J X w F Fi k) (hi : PI X tg iter (rdI I w di)) (hv : ∀ i ∈ vs, i ∈ own.map (·.2)) (ok : BlkOk X.N X.env.scope scope own)
    (hg : ∀ (s : Shared) (H : Hp) (C : Addr) (cl : List (Str × Addr)) (fp : List Addr), PG (X.blk s H scope (compEnvC scope cl C X.env) fp) tg (rdG I g vs)) (ht : ∀ (s : Shared) (H : Hp) (C : Addr) (cl : List (Str × Addr)) (fp : List Addr), PTs (X.blk s H scope (compEnvC scope cl C X.env) fp) ifs (rdT I w0 ta))
    (he : ∀ (s : Shared) (H : Hp) (C : Addr) (cl : List (Str × Addr)) (fp : List Addr), PE (X.blk s H scope (compEnvC scope cl C X.env) fp) elt (rdE I w0 el))
    (hy : X.N[i]? = some y := by rfl) (hyl : X.env.scope.names.lookup y = some .local := by rfl)
    (hsw : swapsWith (.ListComp elt [⟨tg, iter, ifs, 0⟩] scope pos) (some (.Name y py)) spos.line X.env = pure true := by exact sw_true rfl rfl rfl (by decide +kernel)) (hs : ∀ x, foldedSetIterable iter X.env x = pure x := by intro _; rfl) :
    PS X (.Assign [.Name y py] (.ListComp elt [⟨tg, iter, ifs, 0⟩] scope pos) spos) (rdS I w (sAsg (fun e S => (di e S).bind fun p S1 => (compL g ta el p.2 (uns (own.map (·.2)) e) p.1 S1).bind fin) (gNm i))) :=
  PS_imp (ps_setLc t.calm t.nd hy hyl hsw hi ok (fun s H C cl fp => PG_aside (hg s H C cl fp)) (fun s H C cl fp => PTs_aside (ht s H C cl fp)) (fun s H C cl fp => PE_aside (he s H C cl fp)) hs) fun D σ H q => by
    refine comp_rd c hv ?_
    exact rdS_one (f := fun e x S1 => .nx (e.set i (some x)) S1) q fun x v e S M H s sl r p => p _ H M Le.refl s (sl.set r)
theorem lookup_relabel {env : PySem.Env} {x : Str} {k : NameKind} : ∀ {names : List (Str × NameKind)}, names.lookup x = some k → (names.map fun (n, k) => if (k == NameKind.free && env.scope.kind == .function && env.kindOf n == some .cell) then (n, NameKind.cell) else (n, k)).lookup x = some k ∨ (names.map fun (n, k) => if (k == NameKind.free && env.scope.kind == .function && env.kindOf n == some .cell) then (n, NameKind.cell) else (n, k)).lookup x = some .cell
  | [], h => by simp at h
  | (n, k') :: r, h => by
    have ih := lookup_relabel (env := env) (x := x) (k := k) (names := r)
    rw [List.map_cons]
    dsimp only
    cases hx : x == n with
    | true =>
      rw [List.lookup_cons, hx] at h
      cases h
      split
      · exact .inr (by rw [List.lookup_cons, hx])
      · exact .inl (by rw [List.lookup_cons, hx])
    | false =>
      rw [List.lookup_cons, hx] at h
      have := ih h
      split <;> (rw [List.lookup_cons, hx]; exact this)
theorem blkOk_in {N : List Str} {sc scope : Scope} {own : List (Str × Nat)} {env : PySem.Env} (h : BlkOk N sc scope own) : BlkOk N (relabel sc env) scope own :=
  ⟨h.kind, h.uniq, h.ix, fun y hy e => by
    rcases h.free y hy e with q | q
    · rcases lookup_relabel (env := env) q with q | q <;> exact .inl q
    · rcases lookup_relabel (env := env) q with q | q
      · exact .inr q
      · exact .inl q, h.own⟩
/-! zip of a tuple and a list -/
theorem draws_list {prog : Program} {w : World} {A : Around} (hh : A.handled = none) (it t : Addr) (hne : t ≠ it) (items : Array Value) :
    Draws prog w A it [it, t] items.size (fun i v => items[i]? = some v) (fun i h => h.IsListIter it t i ∧ h.IsList t items) where
  live := fun _ _ st => let ⟨o, ho, _⟩ := st.1; ⟨o, ho⟩
  frame := fun _ _ _ st hk => ⟨st.1.at fun o e => hk it (by simp) o e, st.2.at fun o e => hk t (by simp) o e⟩
  item := fun i s Q E hi st hQ => by
    refine wpAny_nextOf_list_item st.1 st.2 (x := items[i]) (by simp [hi]) fun h' hit' hs' => ?_
    exact hQ _ h' s.toks (by simp [hi]) ⟨hit', st.2.extBut hs'.extBut hne⟩ hs'
  done := fun s Q E st hE => wpAny_nextOf_list_end hh st.1 st.2 (by simp) hE
/-- the tuple at a and the list at b as they stand at each turn, the items in new pairs -/
def ItzM (K : PySem.W.Frag) (a b : Addr) : It :=
  ⟨fun i H => ∃ (xs ys : List V) (x y : V), SqT K H a xs ∧ SqL K H b ys ∧ xs[i]? = some x ∧ ys[i]? = some y,
    fun i H v H' => ∃ T x y, v = .ref T ∧ H T = none ∧ H' = upd H T (.tup [x, y]) ∧ (∀ xs, SqT K H a xs → xs[i]? = some x) ∧ ∀ ys, SqL K H b ys → ys[i]? = some y,
    fun i H => ∃ xs ys : List V, SqT K H a xs ∧ SqL K H b ys ∧ i = min xs.length ys.length⟩
theorem turn_zipM {P : Program} {w : World} {K : PySem.W.Frag} {elts : List Expr} {kk : Nat} {tpos : Pos} {a b z TI TO i1 i2 : Addr} (D : ZipSep2 z TI TO i1 i2 [i1, a] [i2, b]) (ha1 : a ≠ i1) (hb2 : b ≠ i2) :
    Turn P w K (.Tuple elts kk tpos) (ItzM K a b) [z, TI, TO, i1, i2] z (fun i h => IsZip h z TI TO .none ∧ IsPair h TI (.ref i1) (.ref i2) ∧ (∃ x y, IsPair h TO x y) ∧ h.IsTupleIter i1 a i ∧ h.IsListIter i2 b i) where
  mem := by simp
  obj := fun i h st c hc => by
    obtain ⟨hz, hTI, ⟨x, y, hTO⟩, ⟨o1, e1, _, d1⟩, ⟨o2, e2, _, d2⟩⟩ := st
    have e' : c = z ∨ c = TI ∨ c = TO ∨ c = i1 ∨ c = i2 := by simpa using hc
    rcases e' with q | q | q | q | q
    · rw [q]; exact ⟨_, hz, fun v q => nomatch q⟩
    · rw [q]; exact ⟨_, hTI, fun v q => nomatch q⟩
    · rw [q]; exact ⟨_, hTO, fun v q => nomatch q⟩
    · rw [q]; exact ⟨o1, e1, fun v q => by rw [d1] at q; cases q⟩
    · rw [q]; exact ⟨o2, e2, fun v q => by rw [d2] at q; cases q⟩
  keep := fun i h h' st k => by
    obtain ⟨hz, hTI, ⟨x, y, hTO⟩, h1, h2⟩ := st
    exact ⟨k z (by simp) _ hz, k TI (by simp) _ hTI, ⟨x, y, k TO (by simp) _ hTO⟩, h1.at fun o q => k i1 (by simp) o q, h2.at fun o q => k i2 (by simp) o q⟩
  item := by
    intro X hP hw hK hc i pins s σ H E In hf st hg
    subst hP hw hK
    obtain ⟨hz, hTI, ⟨x0, y0, hTO⟩, h1, h2⟩ := st
    obtain ⟨xs, ys, x, y, hqx, hqy, hx, hy⟩ := hg
    obtain ⟨its, rv, p, _⟩ := In.tuple hqx
    obtain ⟨its2, rv2, p2, _⟩ := In.list hqy
    obtain ⟨u, hu, ru⟩ := rv.get hx
    obtain ⟨u2, hu2, ru2⟩ := rv2.get hy
    have hzl : z < s.heap.objs.size := Heap.lt_size hz
    have hlt : i < its.toArray.size := by
      have := (List.getElem?_eq_some_iff.mp hu).1
      simpa using this
    have hlt2 : i < its2.toArray.size := by
      have := (List.getElem?_eq_some_iff.mp hu2).1
      simpa using this
    refine wpAny_pyNext_zipD2_item D (Draws.tuple (A := X.A.in1) (In.ok.hd hc) i1 a ha1 its.toArray) (draws_list (A := X.A.in1) (In.ok.hd hc) i2 b hb2 its2.toArray) hz hTI hTO ⟨h1, p⟩ ⟨h2, p2.isList⟩ hlt hlt2 fun x1 x2 h' tk hx1 hx2 z' TO' h1' h2' hT hsz hk => ?_
    obtain rfl : x1 = u := by
      have hy : its.toArray[i]? = some x1 := hx1
      rw [List.getElem?_toArray, hu] at hy
      exact (Option.some.inj hy).symm
    obtain rfl : x2 = u2 := by
      have hy : its2.toArray[i]? = some x2 := hx2
      rw [List.getElem?_toArray, hu2] at hy
      exact (Option.some.inj hy).symm
    obtain ⟨h1', _⟩ := h1'
    obtain ⟨h2', _⟩ := h2'
    refine ⟨_, rfl, wpAny_letOwnedTupleGo_zip (s := { s with heap := h', toks := tk }) z' fun h'' z'' sb => ?_⟩
    have hT2 : h''.get? s.heap.objs.size = some { cls := .type "tuple", data := .seq #[x1, x2] } := (sb.2 _ (Nat.ne_of_gt hzl)).trans hT
    have new : ObjOk X.prog X.w (upd H s.heap.objs.size (.tup [x, y])) h'' s.heap.objs.size (.tup [x, y]) :=
      ⟨by show 2 ≤ sizeLine; decide, [x1, x2], .cons ru (.cons ru2 .nil), ⟨_, hT2, rfl, _, rfl⟩⟩
    have I1 : Inv X pins σ (upd H s.heap.objs.size (.tup [x, y])) { s with heap := h'', toks := tk } :=
      In.turnedNew (t' := tk) (ch := [z, TI, TO, i1, i2]) (fun c o hb q => (sb.2 c (fun q' => hb (by simp [q']))).trans (hk c o (fun q' => hb (by simp [q'])) (fun q' => hb (by simp [q'])) (fun q' => hb (by simp [q'])) (fun q' => hb (by simp [q'])) q)) hf (Nat.le_refl _) new
    refine ⟨.ref s.heap.objs.size, _, I1, rfl, ⟨_, x, y, rfl, In.hok.fresh (Nat.le_refl _), rfl, fun l hl => by rw [In.tuple_inj hl hqx]; exact hx, fun l hl => by rw [In.list_inj hl hqy]; exact hy⟩, ⟨z'', ?_, ⟨x1, x2, ?_⟩, ?_, ?_⟩, fun c hcm => ?_⟩
    · exact (sb.2 _ D.TIz).trans (hk _ _ D.TIz D.TITO D.TIi1 D.TIi2 hTI)
    · exact (sb.2 _ D.TOz).trans TO'
    · exact h1'.at fun o q => (sb.2 _ (Ne.symm D.zi1)).trans q
    · exact h2'.at fun o q => (sb.2 _ (Ne.symm D.zi2)).trans q
    · have hlt : c < s.heap.objs.size := by
        have e' : c = z ∨ c = TI ∨ c = TO ∨ c = i1 ∨ c = i2 := by simpa using hcm
        rcases e' with q | q | q | q | q
        · rw [q]; exact hzl
        · rw [q]; exact Heap.lt_size hTI
        · rw [q]; exact Heap.lt_size hTO
        · rw [q]; obtain ⟨_, e1, _⟩ := h1; exact Heap.lt_size e1
        · rw [q]; obtain ⟨_, e2, _⟩ := h2; exact Heap.lt_size e2
      rw [upd_ne (Nat.ne_of_lt hlt)]
      exact (hf c hcm).1
  done := by
    intro X hP hw hK hc i pins s σ H E In hf st hg
    subst hP hw hK
    obtain ⟨hz, hTI, ⟨x0, y0, hTO⟩, h1, h2⟩ := st
    obtain ⟨xs, ys, hqx, hqy, hend⟩ := hg
    obtain ⟨its, rv, p, _⟩ := In.tuple hqx
    obtain ⟨its2, rv2, p2, _⟩ := In.list hqy
    have l1 := rv.length
    have l2 := rv2.length
    have e1 : its.toArray.size = its.length := by simp
    have e2 : its2.toArray.size = its2.length := by simp
    exact wpAny_pyNext_zipD2_end D (Draws.tuple (A := X.A.in1) (In.ok.hd hc) i1 a ha1 its.toArray) (draws_list (A := X.A.in1) (In.ok.hd hc) i2 b hb2 its2.toArray) hz hTI hTO ⟨h1, p⟩ ⟨h2, p2.isList⟩ (by omega) (by omega) (by omega) fun h' tk hk => ⟨rfl, In.turnedL (t' := tk) (ch := [z, TI, TO, i1, i2]) (fun c o hb q =>
      hk c o (fun q' => hb (by simp [q'])) (fun q' => hb (by simp [q'])) (fun q' => hb (by simp [q'])) (fun q' => hb (by simp [q'])) q) hf⟩
  self := fun A i s Q E st h => wpAny_pyIter_zip st.1 h
abbrev zmH1 (h : Heap) (l1 : Addr) : Heap := h.push { cls := .type "tuple_iterator", data := .fields #[.ref l1, .int 0 0] }
abbrev zmH2 (h : Heap) (l1 l2 : Addr) : Heap := (zmH1 h l1).push { cls := .type "list_iterator", data := .fields #[.ref l2, .int 0 0] }
abbrev zmH3 (h : Heap) (l1 l2 : Addr) : Heap := (zmH2 h l1 l2).push { cls := .type "tuple", data := .seq #[.ref h.objs.size, .ref (zmH1 h l1).objs.size] }
abbrev zmH4 (h : Heap) (l1 l2 : Addr) : Heap := (zmH3 h l1 l2).push { cls := .type "tuple", data := .seq #[.none, .none] }
abbrev zmH5 (h : Heap) (l1 l2 : Addr) : Heap := (zmH4 h l1 l2).push { cls := .type "zip", data := .fields #[.none, .bool false, .bool false, .ref (zmH2 h l1 l2).objs.size, .ref (zmH3 h l1 l2).objs.size] }
theorem meets_zipM_new (l1 l2 : Addr) (xs ys : Array Value) :
    Meets (Builtin.«zip.__new__» ⟨[.type "zip", .ref l1, .ref l2], []⟩) (fun _ R s => s.heap.IsTuple l1 xs ∧ s.heap.IsList l2 ys ∧
      R (.ok (.ret (.ref (zmH4 s.heap l1 l2).objs.size))) { s with heap := zmH5 s.heap l1 l2 }) :=
  .of_wp fun prog w A R s h => by
    obtain ⟨hp, g, d, tk, os⟩ := s; obtain ⟨hl1, hl2, h⟩ := h
    have hsub := sub_zip
    have hL1 : Heap.IsTuple (Shared.heap ⟨hp, g, d, tk, os⟩) l1 xs := hl1
    have hL2 : Heap.IsList (Shared.heap ⟨hp.push { cls := .type "tuple_iterator", data := .fields #[.ref l1, .int 0 0] }, g, d, tk, os⟩) l2 ys := hl2.at fun o e => Heap.get?_push_of_some _ e
    wp_walk using wpAny_pyIter_tuple hL1, wpAny_pyIter_list hL2
    exact ⟨_, rfl, h⟩
theorem call_zipM {prog : Program} {w : World} {A : Around} {E : Value → Shared → Prop} {s : Shared} {l1 l2 : Addr} {xs ys : Array Value} {Q : Value → Shared → Prop} (hl1 : s.heap.IsTuple l1 xs) (hl2 : s.heap.IsList l2 ys)
    (h : ∀ h', IsZip h' (s.heap.objs.size + 4) (s.heap.objs.size + 2) (s.heap.objs.size + 3) .none → IsPair h' (s.heap.objs.size + 2) (.ref s.heap.objs.size) (.ref (s.heap.objs.size + 1)) →
      IsPair h' (s.heap.objs.size + 3) .none .none → h'.IsTupleIter s.heap.objs.size l1 0 → h'.IsListIter (s.heap.objs.size + 1) l2 0 → h'.objs.size = s.heap.objs.size + 5 →
      (∀ c o, s.heap.get? c = some o → h'.get? c = some o) → Q (.ref (s.heap.objs.size + 4)) { s with heap := h' }) :
    wpAny (model prog w) A (call (.type "zip") [.ref l1, .ref l2]) Q E s := by
  refine callType_new F.called_zip (by decide) (F.typeCall_zip_2 _ _) (F.newCall_zip_2 _ _) (fun obj => F.args_object_init_3 obj _ _) F.entry_zip_new
    (meets_zipM_new l1 l2 xs ys) ⟨hl1, hl2, ?_⟩
  have z1 : (zmH1 s.heap l1).objs.size = s.heap.objs.size + 1 := Heap.size_push ..
  have z2 : (zmH2 s.heap l1 l2).objs.size = s.heap.objs.size + 2 := by rw [Heap.size_push, z1]
  have z3 : (zmH3 s.heap l1 l2).objs.size = s.heap.objs.size + 3 := by rw [Heap.size_push, z2]
  have z4 : (zmH4 s.heap l1 l2).objs.size = s.heap.objs.size + 4 := by rw [Heap.size_push, z3]
  have z5 : (zmH5 s.heap l1 l2).objs.size = s.heap.objs.size + 5 := by rw [Heap.size_push, z4]
  have g5 : (zmH5 s.heap l1 l2).get? (zmH4 s.heap l1 l2).objs.size = some _ := Heap.get?_push_size _ rfl
  have g4 : (zmH5 s.heap l1 l2).get? (zmH3 s.heap l1 l2).objs.size = some _ := Heap.get?_push_of_some _ (Heap.get?_push_size _ rfl)
  have g3 : (zmH5 s.heap l1 l2).get? (zmH2 s.heap l1 l2).objs.size = some _ := Heap.get?_push_of_some _ (Heap.get?_push_of_some _ (Heap.get?_push_size _ rfl))
  have g2 : (zmH5 s.heap l1 l2).get? (zmH1 s.heap l1).objs.size = some _ := Heap.get?_push_of_some _ (Heap.get?_push_of_some _ (Heap.get?_push_of_some _ (Heap.get?_push_size _ rfl)))
  have g1 : (zmH5 s.heap l1 l2).get? s.heap.objs.size = some _ := Heap.get?_push_of_some _ (Heap.get?_push_of_some _ (Heap.get?_push_of_some _ (Heap.get?_push_of_some _ (Heap.get?_push_size _ rfl))))
  show _ ∧ _
  rw [z2, z3, z4] at g5
  rw [z1, z2] at g3
  rw [z3] at g4
  rw [z1] at g2
  rw [z4]
  exact ⟨⟨_, g5, rfl⟩, h _ g5 g3 g4 ⟨_, g1, rfl, rfl⟩ ⟨_, g2, rfl, rfl⟩ z5 fun c o x =>
    Heap.get?_push_of_some _ (Heap.get?_push_of_some _ (Heap.get?_push_of_some _ (Heap.get?_push_of_some _ (Heap.get?_push_of_some _ x))))⟩
def iZipB (K : PySem.W.Frag) (ta : TA) : TI := fun σ H R => ta σ H fun vs H1 => ∃ a b xs ys, vs = [.ref a, .ref b] ∧ ((SqL K H1 a xs ∧ SqL K H1 b ys ∧ R (Itz K a b) H1) ∨ (SqT K H1 a xs ∧ SqT K H1 b ys ∧ R (RZ.ItzT K a b) H1) ∨ (SqT K H1 a xs ∧ SqL K H1 b ys ∧ R (ItzM K a b) H1))
theorem pi_zipB {X : Cx} {e e2 : Expr} {ta : TA} {p pos tpos : Pos} {elts : List Expr} {kk : Nat} (hg : Gl X "zip") (hm : X.mg "zip" = none) (ha : PA X [e, e2] ta)
    (hs : starEach [e, e2] X.env = (false, eval e X.env) :: starEach [e2] X.env := by rfl) (hpl : (backTo pos (starEach [e2] X.env)).any (·.1) = false := by rfl) :
    PI X (.Tuple elts kk tpos) (.Call (.Name "zip" p) [e, e2] [] pos) (iZipB X.K ta) := by
  refine ⟨fun pins s σ H R In h => ?_⟩
  refine Call_ (ld_blt In hg hm PyProof.Rows.boot_zip (PyProof.Rows.callWith_type1 (thn (ha.run pos pins s σ H _ In h) fun us s1 ⟨vs, H1, I1, r1, q1⟩ => ?_) hs hpl))
  obtain ⟨a, b, xs, ys, ex, q1⟩ := q1
  subst ex
  cases r1 with
  | cons r rr =>
    cases rr with
    | cons r' rr =>
      cases rr
      cases r
      cases r'
      have fresh5 : ∀ c, c ∈ [s1.heap.objs.size + 4, s1.heap.objs.size + 2, s1.heap.objs.size + 3, s1.heap.objs.size, s1.heap.objs.size + 1] → FpOk X pins H1 c := fun c hcm => by
        have e' : c = s1.heap.objs.size + 4 ∨ c = s1.heap.objs.size + 2 ∨ c = s1.heap.objs.size + 3 ∨ c = s1.heap.objs.size ∨ c = s1.heap.objs.size + 1 := by simpa using hcm
        have hle : s1.heap.objs.size ≤ c := by
          rcases e' with z | z | z | z | z
          · rw [z]; exact Nat.le_add_right _ _
          · rw [z]; exact Nat.le_add_right _ _
          · rw [z]; exact Nat.le_add_right _ _
          · rw [z]; exact Nat.le_refl _
          · rw [z]; exact Nat.le_add_right _ _
        exact I1.fpOk hle (I1.hok.fresh hle)
      rcases q1 with ⟨hqx, hqy, q⟩ | ⟨hqx, hqy, q⟩ | ⟨hqx, hqy, q⟩
      · obtain ⟨its, rv, p1, _⟩ := I1.list hqx
        obtain ⟨its2, rv2, p2, _⟩ := I1.list hqy
        refine call_zip_2 p1.isList p2.isList fun h' hz hTI hTO h1 h2 hsz hk => wpAny_pyIter_zip hz ?_
        exact ⟨s1.heap.objs.size + 4, [s1.heap.objs.size + 4, s1.heap.objs.size + 2, s1.heap.objs.size + 3, s1.heap.objs.size, s1.heap.objs.size + 1], _, _, H1, rfl, I1.kept (t' := s1.toks) hk, turn_zip (PySem.W.ktu_apart s1.heap.objs.size a b p1.lt p2.lt), ⟨hz, hTI, ⟨_, _, hTO⟩, h1, h2⟩, fresh5, q⟩
      · obtain ⟨its, rv, p1, _⟩ := I1.tuple hqx
        obtain ⟨its2, rv2, p2, _⟩ := I1.tuple hqy
        obtain ⟨o1, ho1, _⟩ := id p1
        obtain ⟨o2, ho2, _⟩ := id p2
        refine RZ.call_zipT (show s1.heap.IsTuple a its.toArray from p1) (show s1.heap.IsTuple b its2.toArray from p2) fun h' hz hTI hTO h1 h2 hsz hk => wpAny_pyIter_zip hz ?_
        exact ⟨s1.heap.objs.size + 4, [s1.heap.objs.size + 4, s1.heap.objs.size + 2, s1.heap.objs.size + 3, s1.heap.objs.size, s1.heap.objs.size + 1], _, _, H1, rfl, I1.kept (t' := s1.toks) hk, RZ.turn_zipT (PySem.W.ktu_apart s1.heap.objs.size a b (Heap.lt_size ho1) (Heap.lt_size ho2)), ⟨hz, hTI, ⟨_, _, hTO⟩, h1, h2⟩, fresh5, q⟩
      · obtain ⟨its, rv, p1, _⟩ := I1.tuple hqx
        obtain ⟨its2, rv2, p2, _⟩ := I1.list hqy
        obtain ⟨o1, ho1, _⟩ := id p1
        have lta : a < s1.heap.objs.size := Heap.lt_size ho1
        have ltb : b < s1.heap.objs.size := p2.lt
        generalize hN : s1.heap.objs.size = N at fresh5 lta ltb
        have sep : ZipSep2 (N + 4) (N + 2) (N + 3) N (N + 1) [N, a] [N + 1, b] := by
          have f : ∀ {x y z : Nat}, x ≠ y → x ≠ z → x ∉ ([y, z] : List Nat) := fun h1 h2 m => by
            rcases (by simpa using m : _ ∨ _) with e | e
            · exact h1 e
            · exact h2 e
          have ga : ∀ k : Nat, N + k ≠ a := fun k => Nat.ne_of_gt (Nat.lt_of_lt_of_le lta (Nat.le_add_right _ _))
          have gb : ∀ k : Nat, N + k ≠ b := fun k => Nat.ne_of_gt (Nat.lt_of_lt_of_le ltb (Nat.le_add_right _ _))
          exact ⟨by show N + 2 ≠ N + 4; omega, by show N + 3 ≠ N + 4; omega, by show N + 2 ≠ N + 3; omega, by show N + 2 ≠ N; omega, by simp, f (by omega) (ga 4), f (by omega) (ga 3), by show N + 2 ≠ N + 1; omega, by simp, f (by omega) (gb 4), f (by omega) (gb 3), f (by omega) (gb 0), f (by omega) (ga 1)⟩
        subst hN
        refine call_zipM (show s1.heap.IsTuple a its.toArray from p1) p2.isList fun h' hz hTI hTO h1 h2 hsz hk => wpAny_pyIter_zip hz ?_
        exact ⟨s1.heap.objs.size + 4, [s1.heap.objs.size + 4, s1.heap.objs.size + 2, s1.heap.objs.size + 3, s1.heap.objs.size, s1.heap.objs.size + 1], _, _, H1, rfl, I1.kept (t' := s1.toks) hk, turn_zipM sep (Nat.ne_of_lt lta) (Nat.ne_of_lt (Nat.lt_succ_of_lt ltb)), ⟨hz, hTI, ⟨_, _, hTO⟩, h1, h2⟩, fresh5, q⟩
/-! zip of two lists, of two tuples -/
def zipP (xs ys : List D) : List W := (xs.zip ys).map fun p => W.d (.tup [p.1, p.2])
def zipO : W → W → Sto → Option (List W × (Sto → Prop))
  | .d (.tup xs), .d (.tup ys), _ => some (zipP xs ys, fun _ => True)
  | .d (.tup xs), .d (.lst ys), _ => some (zipP xs ys, fun _ => True)
  | x, y, S => match lsOf x S, lsOf y S with
    | some a, some b => match plainL a, plainL b with
      | some xs, some ys => some (zipP xs ys, fun S' => lsOf x S' = some a ∧ lsOf y S' = some b)
      | _, _ => none
    | _, _ => none
def iZip (a b : DE) : DI := fun e S => (a e S).bind fun x S1 => (b e S1).bind fun y S2 => ofO (zipO x y S2) S2
theorem zip_get {α β : Type} {xs : List α} {ys : List β} {i : Nat} {p : α × β} (h : (xs.zip ys)[i]? = some p) : xs[i]? = some p.1 ∧ ys[i]? = some p.2 := by
  rw [List.getElem?_zip_eq_some] at h
  exact h
theorem zipP_get {xs ys : List D} {i : Nat} {x : W} (h : (zipP xs ys)[i]? = some x) : ∃ a b, xs[i]? = some a ∧ ys[i]? = some b ∧ x = .d (.tup [a, b]) := by
  unfold zipP at h
  rw [List.getElem?_map] at h
  cases q : (xs.zip ys)[i]? with
  | none => rw [q] at h; cases h
  | some p =>
    rw [q] at h
    obtain ⟨h1, h2⟩ := zip_get q
    exact ⟨p.1, p.2, h1, h2, by simpa using h.symm⟩
theorem zipP_len {xs ys : List D} : (zipP xs ys).length = min xs.length ys.length := by
  unfold zipP
  simp
theorem reps_get {H : Hp} : ∀ {xs : List D} {vs : List V} {i : Nat} {a : D}, Reps I H xs vs → xs[i]? = some a → ∃ v, vs[i]? = some v ∧ Rep I H a v
  | _, _, _, _, .nil, h => by simp at h
  | _, _, 0, _, .cons r1 rs, h => by cases h; exact ⟨_, rfl, r1⟩
  | _, _, i + 1, _, .cons r1 rs, h => reps_get (i := i) rs h
theorem wk_zipL {a b : Addr} {xs ys : List D} {gd : Sto → Prop} {S : Sto} {M : List Addr} {H : Hp} (h : ∀ S2 M2 Hs, Le S M H S2 M2 Hs → Sim I S2 M2 Hs → gd S2 → ∃ vs us, SqL I.K Hs a vs ∧ SqL I.K Hs b us ∧ Reps I (mask S2 M2 Hs) xs vs ∧ Reps I (mask S2 M2 Hs) ys us) : WalkI I (Itz I.K a b) (zipP xs ys) gd S M H where
  item := fun S2 M2 Hs H2 l s ex hg i x hx => by
    obtain ⟨vs, us, h1, h2, r1, r2⟩ := h S2 M2 Hs l s hg
    obtain ⟨c, d, e1, e2, rfl⟩ := zipP_get hx
    obtain ⟨v, f1, g1⟩ := reps_get r1 e1
    obtain ⟨u, f2, g2⟩ := reps_get r2 e2
    refine ⟨⟨vs, us, v, u, ex_l ex h1, ex_l ex h2, f1, f2⟩, fun w H3 hy => .inr ?_⟩
    obtain ⟨T, v', u', rfl, nT, rfl, k1, k2⟩ := hy
    have := k1 vs (ex_l ex h1)
    rw [f1] at this
    cases this
    have := k2 us (ex_l ex h2)
    rw [f2] at this
    cases this
    exact ⟨T, [v, u], [c, d], nT, rfl, rfl, rfl, .cons g1 (.cons g2 .nil)⟩
  stop := fun S2 M2 Hs H2 l s ex hg => by
    obtain ⟨vs, us, h1, h2, r1, r2⟩ := h S2 M2 Hs l s hg
    refine ⟨vs, us, ex_l ex h1, ex_l ex h2, ?_⟩
    rw [zipP_len, r1.len, r2.len]
    omega
theorem wk_zipT {a b : Addr} {xs ys : List D} {gd : Sto → Prop} {S : Sto} {M : List Addr} {H : Hp} (h : ∀ S2 M2 Hs, Le S M H S2 M2 Hs → Sim I S2 M2 Hs → gd S2 → ∃ vs us, SqT I.K Hs a vs ∧ SqT I.K Hs b us ∧ Reps I (mask S2 M2 Hs) xs vs ∧ Reps I (mask S2 M2 Hs) ys us) : WalkI I (RZ.ItzT I.K a b) (zipP xs ys) gd S M H where
  item := fun S2 M2 Hs H2 l s ex hg i x hx => by
    obtain ⟨vs, us, h1, h2, r1, r2⟩ := h S2 M2 Hs l s hg
    obtain ⟨c, d, e1, e2, rfl⟩ := zipP_get hx
    obtain ⟨v, f1, g1⟩ := reps_get r1 e1
    obtain ⟨u, f2, g2⟩ := reps_get r2 e2
    refine ⟨⟨vs, us, v, u, ex_t ex h1, ex_t ex h2, f1, f2⟩, fun w H3 hy => .inr ?_⟩
    obtain ⟨T, v', u', rfl, nT, rfl, k1, k2⟩ := hy
    have := k1 vs (ex_t ex h1)
    rw [f1] at this
    cases this
    have := k2 us (ex_t ex h2)
    rw [f2] at this
    cases this
    exact ⟨T, [v, u], [c, d], nT, rfl, rfl, rfl, .cons g1 (.cons g2 .nil)⟩
  stop := fun S2 M2 Hs H2 l s ex hg => by
    obtain ⟨vs, us, h1, h2, r1, r2⟩ := h S2 M2 Hs l s hg
    refine ⟨vs, us, ex_t ex h1, ex_t ex h2, ?_⟩
    rw [zipP_len, r1.len, r2.len]
    omega
theorem wk_zipM {a b : Addr} {xs ys : List D} {gd : Sto → Prop} {S : Sto} {M : List Addr} {H : Hp} (h : ∀ S2 M2 Hs, Le S M H S2 M2 Hs → Sim I S2 M2 Hs → gd S2 → ∃ vs us, SqT I.K Hs a vs ∧ SqL I.K Hs b us ∧ Reps I (mask S2 M2 Hs) xs vs ∧ Reps I (mask S2 M2 Hs) ys us) : WalkI I (ItzM I.K a b) (zipP xs ys) gd S M H where
  item := fun S2 M2 Hs H2 l s ex hg i x hx => by
    obtain ⟨vs, us, h1, h2, r1, r2⟩ := h S2 M2 Hs l s hg
    obtain ⟨c, d, e1, e2, rfl⟩ := zipP_get hx
    obtain ⟨v, f1, g1⟩ := reps_get r1 e1
    obtain ⟨u, f2, g2⟩ := reps_get r2 e2
    refine ⟨⟨vs, us, v, u, ex_t ex h1, ex_l ex h2, f1, f2⟩, fun w H3 hy => .inr ?_⟩
    obtain ⟨T, v', u', rfl, nT, rfl, k1, k2⟩ := hy
    have := k1 vs (ex_t ex h1)
    rw [f1] at this
    cases this
    have := k2 us (ex_l ex h2)
    rw [f2] at this
    cases this
    exact ⟨T, [v, u], [c, d], nT, rfl, rfl, rfl, .cons g1 (.cons g2 .nil)⟩
  stop := fun S2 M2 Hs H2 l s ex hg => by
    obtain ⟨vs, us, h1, h2, r1, r2⟩ := h S2 M2 Hs l s hg
    refine ⟨vs, us, ex_t ex h1, ex_l ex h2, ?_⟩
    rw [zipP_len, r1.len, r2.len]
theorem plainL_reps {M : List Addr} {H : Hp} : ∀ {ws : List W} {vs : List V} {xs : List D}, RepWs I M H ws vs → plainL ws = some xs → Reps I H xs vs
  | [], _, _, .nil, e => by cases e; exact .nil
  | .d x :: ws, _, _, .cons r t, e => by
    rw [plainL] at e
    split at e
    · rename_i ys hy
      cases e
      exact .cons r (plainL_reps t hy)
    · cases e
  | .c _ :: _, _, _, .cons _ _, e => by rw [plainL] at e; cases e
  | .e _ _ :: _, _, _, .cons _ _, e => by rw [plainL] at e; cases e
theorem si_zip {elts : List Expr} {kk : Nat} {tpos : Pos} (t : Cok J X w F Fi k) (hb : J.sg.blt "zip" = true) (ha : PE X a (rdE (J.inf X.K) w da)) (hb' : PE X b (rdE (J.inf X.K) w db)) (hg : Gl X "zip" := by rfl) (hs : starEach [a, b] X.env = (false, eval a X.env) :: starEach [b] X.env := by rfl)
    (hpl : (backTo pos (starEach [b] X.env)).any (·.1) = false := by rfl) (hs2 : starEach [b] X.env = (false, eval b X.env) :: starEach [] X.env := by rfl) : PI X (.Tuple elts kk tpos) (.Call (.Name "zip" p) [a, b] [] pos) (rdI (J.inf X.K) w (iZip da db)) :=
  PI_imp (pi_zipB hg (t.glb _ hb) (pa_cons ha (pa_cons hb' pa_nil hs2) hs) hs hpl) fun σ H R ⟨env, S, M, sim, sl, p⟩ => by
    show rdE (J.inf X.K) w da σ H fun x H1 => rdE (J.inf X.K) w db σ H1 fun y H2 => ∃ a b xs ys, [x, y] = [.ref a, .ref b] ∧ ((SqL X.K H2 a xs ∧ SqL X.K H2 b ys ∧ R (Itz X.K a b) H2) ∨ (SqT X.K H2 a xs ∧ SqT X.K H2 b ys ∧ R (RZ.ItzT X.K a b) H2) ∨ (SqT X.K H2 a xs ∧ SqL X.K H2 b ys ∧ R (ItzM X.K a b) H2))
    refine rdI_at (R := R) (f := fun x S1 => (db env S1).bind fun y S2 => ofO (zipO x y S2) S2) sim sl p fun x v S1 M1 H1 l1 s1 sl1 r1 p1 => ?_
    refine rdI_at (R := R) (f := fun y S2 => ofO (zipO x y S2) S2) s1 sl1 p1 fun y u S2 M2 H2 l2 s2 sl2 r2 p2 => ?_
    obtain ⟨q, hq, kk⟩ := EndI.of p2 s2
    have r1 := r1.mono l2
    unfold zipO at hq
    split at hq
    · rename_i xs ys
      cases hq
      cases r1 with
      | tup h1 q1 =>
        cases r2 with
        | tup h2 q2 =>
          exact ⟨_, _, _, _, rfl, .inr (.inl ⟨ex_t mask_ex h1, ex_t mask_ex h2, kk _ (wk_zipT fun S3 M3 Hs l s3 _ => ⟨_, _, ex_t (l.ex.trans mask_ex) h1, ex_t (l.ex.trans mask_ex) h2, q1.mono l.ex, q2.mono l.ex⟩)⟩)⟩
    · rename_i xs ys
      cases hq
      cases r1 with
      | tup h1 q1 =>
        cases r2 with
        | lst h2 q2 =>
          have h2' : ∀ {Hs : Hp}, Ex (mask S2 M2 H2) Hs → SqL X.K Hs _ _ := fun ex => .inl (.inl (ex _ _ h2))
          exact ⟨_, _, _, _, rfl, .inr (.inr ⟨ex_t mask_ex h1, h2' mask_ex, kk _ (wk_zipM fun S3 M3 Hs l s3 _ => ⟨_, _, ex_t (l.ex.trans mask_ex) h1, h2' (l.ex.trans mask_ex), q1.mono l.ex, q2.mono l.ex⟩)⟩)⟩
    · split at hq
      · rename_i as bs ea eb
        split at hq
        · rename_i xs ys ex ey
          cases hq
          obtain ⟨a, vs, rfl, h1, q1⟩ := lsOf_at s2 r1 ea
          obtain ⟨b, us, rfl, h2, q2⟩ := lsOf_at s2 r2 eb
          refine ⟨a, b, vs, us, rfl, .inl ⟨h1, h2, kk _ (wk_zipL fun S3 M3 Hs l s3 hg => ?_)⟩⟩
          obtain ⟨a', vs', e1, h1', q1'⟩ := lsOf_at s3 (r1.mono l) hg.1
          obtain ⟨b', us', e2, h2', q2'⟩ := lsOf_at s3 (r2.mono l) hg.2
          cases e1
          cases e2
          exact ⟨vs', us', h1', h2', plainL_reps q1' ex, plainL_reps q2' ey⟩
        · cases hq
      · cases hq
/-! reversed of a list, of a tuple -/
def revO : W → Sto → Option (List W × (Sto → Prop))
  | .d (.str x), _ => if x.length ≤ sizeLine then some ((x.cps.toList.map fun c => W.d (.str ⟨#[c]⟩)).reverse, fun _ => True) else none
  | .d (.tup xs), _ => some ((xs.map W.d).reverse, fun _ => True)
  | x, S => match lsOf x S with
    | some a => some (a.reverse, fun S' => lsOf x S' = some a)
    | none => none
def iRev (a : DE) : DI := fun e S => (a e S).bind fun x S1 => ofO (revO x S1) S1
theorem rev_get {α : Type} {xs : List α} {i : Nat} {x : α} (h : xs.reverse[i]? = some x) : i < xs.length ∧ xs[xs.length - 1 - i]? = some x := by
  have hi : i < xs.length := by
    have := (List.getElem?_eq_some_iff.mp h).1
    simpa using this
  rw [List.getElem?_reverse hi] at h
  exact ⟨hi, h⟩
theorem wk_revL {a : Addr} {n : Nat} {xs : List W} {gd : Sto → Prop} {S : Sto} {M : List Addr} {H : Hp} (hn : xs.length = n) (h : ∀ S2 M2 Hs, Le S M H S2 M2 Hs → Sim I S2 M2 Hs → gd S2 → ∃ vs, SqL I.K Hs a vs ∧ RepWs I M2 (mask S2 M2 Hs) xs vs) : WalkI I (Itv I.K a n) xs.reverse gd S M H where
  item := fun S2 M2 Hs H2 l s ex hg i x hx => by
    obtain ⟨vs, h1, r1⟩ := h S2 M2 Hs l s hg
    obtain ⟨hi, hx⟩ := rev_get hx
    rw [hn] at hi hx
    obtain ⟨v, f1, g1⟩ := paired_get r1 hx
    refine ⟨⟨hi, vs, v, ex_l ex h1, f1⟩, fun u H3 hy => .inl ⟨hy.1, ?_⟩⟩
    have := hy.2 vs (ex_l ex h1)
    rw [f1] at this
    cases this
    exact g1
  stop := fun S2 M2 Hs H2 l s ex hg => by
    rw [List.length_reverse, hn]
    exact Nat.le_refl _
theorem wk_revT {a : Addr} {n : Nat} {xs : List W} {gd : Sto → Prop} {S : Sto} {M : List Addr} {H : Hp} (hn : xs.length = n) (h : ∀ S2 M2 Hs, Le S M H S2 M2 Hs → Sim I S2 M2 Hs → gd S2 → ∃ vs, SqT I.K Hs a vs ∧ RepWs I M2 (mask S2 M2 Hs) xs vs) : WalkI I (RT.ItvT I.K a n) xs.reverse gd S M H where
  item := fun S2 M2 Hs H2 l s ex hg i x hx => by
    obtain ⟨vs, h1, r1⟩ := h S2 M2 Hs l s hg
    obtain ⟨hi, hx⟩ := rev_get hx
    rw [hn] at hi hx
    obtain ⟨v, f1, g1⟩ := paired_get r1 hx
    refine ⟨⟨hi, vs, v, ex_t ex h1, f1⟩, fun u H3 hy => .inl ⟨hy.1, ?_⟩⟩
    have := hy.2 vs (ex_t ex h1)
    rw [f1] at this
    cases this
    exact g1
  stop := fun S2 M2 Hs H2 l s ex hg => by
    rw [List.length_reverse, hn]
    exact Nat.le_refl _
theorem wk_revS {x : Str} {gd : Sto → Prop} {S : Sto} {M : List Addr} {H : Hp} : WalkI I (ItvS x) (x.cps.toList.map fun c => W.d (.str ⟨#[c]⟩)).reverse gd S M H where
  item := fun S2 M2 Hs H2 l s ex hg i y hy => by
    obtain ⟨hi, hy⟩ := rev_get hy
    rw [List.length_map, Array.length_toList] at hi hy
    rw [List.getElem?_map, Array.getElem?_toList] at hy
    have hlt : x.cps.size - 1 - i < x.cps.size := by omega
    rw [Array.getElem?_eq_getElem hlt] at hy
    cases hy
    refine ⟨hi, fun u H3 hz => .inl ?_⟩
    obtain ⟨e, c, hc, rfl⟩ := hz
    have hc : x.cps[x.cps.size - 1 - i]? = some c := hc
    rw [Array.getElem?_eq_getElem hlt] at hc
    cases hc
    exact ⟨e, .str _⟩
  stop := fun S2 M2 Hs H2 l s ex hg => by
    show x.cps.size ≤ _
    rw [List.length_reverse, List.length_map, Array.length_toList]
    exact Nat.le_refl _
theorem si_reversed (t : Cok J X w F Fi k) (hb : J.sg.blt "reversed" = true) (ha : PE X a (rdE (J.inf X.K) w da)) (hg : Gl X "reversed" := by rfl) (hs : starEach [a] X.env = (false, eval a X.env) :: starEach [] X.env := by rfl) : PI X tg (.Call (.Name "reversed" p) [a] [] pos) (rdI (J.inf X.K) w (iRev da)) :=
  PI_imp (pi_revB hg (t.glb _ hb) ha hs) fun σ H R ⟨env, S, M, sim, sl, p⟩ => by
    refine rdI_at (R := R) (f := fun x S1 => ofO (revO x S1) S1) sim sl p fun x v S1 M1 H1 l1 s1 sl1 r1 p1 => ?_
    obtain ⟨q, hq, kk⟩ := EndI.of p1 s1
    unfold revO at hq
    split at hq
    · rename_i x
      split at hq
      · rename_i hz
        cases hq
        cases r1
        exact .inl ⟨x, rfl, hz, kk _ wk_revS⟩
      · cases hq
    · rename_i xs
      cases hq
      cases r1 with
      | tup h1 q1 =>
        exact .inr ⟨_, _, rfl, .inr ⟨ex_t mask_ex h1, kk _ (wk_revT (by rw [List.length_map]; exact q1.len) fun S3 M3 Hs l s3 _ => ⟨_, ex_t (l.ex.trans mask_ex) h1, reps_map (q1.mono l.ex)⟩)⟩⟩
    · split at hq
      · rename_i as ea
        cases hq
        obtain ⟨a, vs, rfl, h1, q1⟩ := lsOf_at s1 r1 ea
        refine .inr ⟨a, vs, rfl, .inl ⟨h1, kk _ (wk_revL (Paired.length q1) fun S3 M3 Hs l s3 hg => ?_)⟩⟩
        obtain ⟨a', vs', e1, h1', q1'⟩ := lsOf_at s3 (r1.mono l) hg
        cases e1
        exact ⟨vs', h1', q1'⟩
      · cases hq
end
end Py

/-! Py12: the defs of a program; the end. -/
namespace Py
open PySem PySem.Spec PyProof.Rows L2
structure Def where
  id : Nat
  ar : Nat
  N : Nat
  body : FnTab → FnTab → DS
def noTab : FnTab := fun _ _ _ => .bad
def stepTab (ds : List Def) (F Fi : FnTab) : FnTab := fun f ws S => match ds.find? (fun d => d.id == f) with
  | some d => runDef d.N d.ar (d.body F Fi) ws S
  | none => .bad
def tabP (ds : List Def) : Nat → FnTab × FnTab
  | 0 => (noTab, noTab)
  | n + 1 => (stepTab ds (tabP ds n).1 (tabP ds n).2, (tabP ds n).1)
structure Loc where
  fa : Addr
  fd : FuncData
  ps : List Str
structure Stat (J : Jn) (P : Program) (wd : World) (K : PySem.W.Frag) (mg : Str → Option Value) (base : Heap) (loc : Nat → Option Loc) (ar : Nat → Nat) : Prop where
  seer : base.NoSeer
  tree : P.given.tree = none
  len : ∀ f l, loc f = some l → l.ps.length = ar f
  call : ∀ f x n, J.sg.nm f = some (x, n) → ∃ l, loc f = some l ∧ ar f = n ∧ mg x = some (.ref l.fa) ∧ PySem.W.keepIn K (.ref l.fa) = true ∧ Binds K l.fd l.ps []
  meth : ∀ f c m n, J.sg.mt f = some (c, m, n) → ∃ C l, loc f = some l ∧ ar f = n ∧ J.G c = some C ∧ Meth K C m l.fa ∧ Binds K l.fd l.ps []
  make : ∀ c x f n dfl, J.sg.ini c = some (x, f, n, dfl) → ∃ C l, loc f = some l ∧ ar f = n ∧ J.G c = some C ∧ mg x = some (.ref C) ∧ Mk K C l.fa ∧ ∀ dvs ∈ dfl, ∃ ds, Vals dvs ds ∧ Binds K l.fd l.ps ds
  makeK : ∀ c x f n m ks, J.sg.kw c = some (x, f, n, m, ks) → ∃ C l, loc f = some l ∧ ar f = n ∧ J.G c = some C ∧ mg x = some (.ref C) ∧ Mk K C l.fa ∧ KBn K l.fd l.ps (m + 1) ks (fun us ws => us ++ ws) (fun vs zs => vs ++ zs)
  fi : ∀ f c m n, J.sg.mt f = some (c, m, n) → ∃ (C fa : Addr), J.G c = some C ∧ Meth K C m fa ∧ PySem.W.fnIn K fa = true
  prop : ∀ f c x, J.sg.prop f = some (c, x) → ∃ C p l, loc f = some l ∧ ar f = 1 ∧ J.G c = some C ∧ PropOf K C x p l.fa ∧ Binds K l.fd l.ps []
  cls : ∀ c C, J.G c = some C → Cls K C
  nat : ∀ c C x, J.G c = some C → x ∈ J.sg.fl c → NoAttr K C x
  glb : ∀ x, J.sg.blt x = true → mg x = none
  con : ∀ x v, J.sg.con x = some v → ∃ u, mg x = some u ∧ RelV v u
  dct : ∀ x kv, J.sg.dct x = some kv → ∃ d, mg x = some (.ref d) ∧ ∀ p ∈ kv, KDct K wd d p.1 (.int p.2) := by intro x kv h; cases h
  cnm : ∀ x c, J.sg.cn x = some c → ∃ C, J.G c = some C ∧ mg x = some (.ref C)
  ty : ∀ c C, J.G c = some C → PySem.W.findIn K (.ref C) "__class__" = some (some (.builtin "object.__class__")) ∧ PySem.W.specialIn K (.builtin "object.__class__") "__get__" = some (some (.builtin "getset_descriptor.__get__")) ∧ PySem.W.takesIn K (.builtin "object.__class__") = some true ∧ PySem.W.mroIn K C (.type "object") = some true
  sf : ∀ c C, J.G c = some C → PySem.W.selfFirst K C = true
  isc : ∀ c c' C C', J.G c = some C → J.G c' = some C' → PySem.W.kitOne K (.ref C) (.ref C') = some (J.sg.sub c c')
  isb : ∀ (T : String) c C, T ∈ ["NoneType", "bool", "int", "str", "tuple", "list", "dict"] → J.G c = some C → PySem.W.kitOne K (.type T) (.ref C) = some false
  ist : ∀ (T : String) c C, T ∈ ["NoneType", "bool", "int", "str", "tuple", "list", "dict"] → J.G c = some C → PySem.W.kitOne K (.ref C) (.type T) = some false
  xn : ∀ x c, J.sg.xn x = some c → ∃ C, J.X c = some C ∧ mg x = some (.ref C)
  xc : ∀ c C, J.X c = some C → XcF P wd K mg base C
  xs : ∀ c k C C', J.X c = some C → J.X k = some C' → PySem.W.kitOne K (.ref C) (.ref C') = some (J.sg.xs c k) ∧ PySem.W.exmOne K (.ref C) (.ref C') = some (J.sg.xs c k)
  xv : ∀ c C, J.X c = some C → PySem.W.kitOne K (.ref C) (.type "ValueError") = some true
section
variable {J : Jn} {P : Program} {wd : World} {K : PySem.W.Frag} {mg : Str → Option Value} {base : Heap} {loc : Nat → Option Loc} {ar : Nat → Nat} {F Fi : FnTab} {k : Nat}
abbrev Kept (J : Jn) (P : Program) (wd : World) (K : PySem.W.Frag) (mg : Str → Option Value) (base : Heap) (loc : Nat → Option Loc) (ar : Nat → Nat) (F : FnTab) (k : Nat) : Prop :=
  ∀ f l, loc f = some l → FnOk P wd K mg base (L2.CX P wd) k l.fa l.fd l.ps (spOf (J.inf K) F f (ar f))
theorem tb_of (hk : 40 ≤ k) (s : Stat J P wd K mg base loc ar) (h1 : Kept J P wd K mg base loc ar F (k + 1)) (h0 : Kept J P wd K mg base loc ar Fi k) : Tb J P wd K mg base F Fi k where
  seer := s.seer
  tree := s.tree
  ge := hk
  call := fun f x n e => by
    obtain ⟨l, a, b, c, d, g⟩ := s.call f x n e
    subst b
    exact ⟨l.fa, l.fd, l.ps, c, d, h1 f l a, g⟩
  meth := fun f c m n e => by
    obtain ⟨C, l, a, b, c, d, g⟩ := s.meth f c m n e
    subst b
    exact ⟨C, l.fa, l.fd, l.ps, c, d, h1 f l a, g⟩
  make := fun c x f n dfl e => by
    obtain ⟨C, l, a, b, c, d, g, i⟩ := s.make c x f n dfl e
    subst b
    exact ⟨C, l.fa, l.fd, l.ps, c, d, g, h0 f l a, i⟩
  makeK := fun c x f n m ks e => by
    obtain ⟨C, l, a, b, c, d, g, i⟩ := s.makeK c x f n m ks e
    subst b
    exact ⟨C, l.fa, l.fd, l.ps, c, d, g, h0 f l a, i⟩
  low := fun f c m n e => by
    obtain ⟨C, l, a, b, c, d, g⟩ := s.meth f c m n e
    subst b
    exact ⟨C, l.fa, l.fd, l.ps, c, d, h0 f l a, g⟩
  lowf := fun f x n e => by
    obtain ⟨l, a, b, c, d, g⟩ := s.call f x n e
    subst b
    exact ⟨l.fa, l.fd, l.ps, c, h0 f l a, g⟩
  prop := fun f c x e => by
    obtain ⟨C, p, l, a, b, c, d, g⟩ := s.prop f c x e
    have h := h0 f l a
    rw [b] at h
    exact ⟨C, p, l.fa, l.fd, l.ps, c, d, h, g⟩
  fi := s.fi
  cls := s.cls
  nat := s.nat
  glb := s.glb
  con := s.con
  dct := s.dct
  cnm := s.cnm
  ty := s.ty
  sf := s.sf
  xn := s.xn
  xc := s.xc
  xs := s.xs
  xv := s.xv
  isc := s.isc
  isb := s.isb
  ist := s.ist
theorem kept_none (s : Stat J P wd K mg base loc ar) : Kept J P wd K mg base loc ar noTab k := fun f l e =>
  ⟨fun vs H Q E h => by rw [s.len f l e]; exact h.1, fun A outer s H args us vs Q E hr e0 hb r h => by
    obtain ⟨_, ws, S, M, _, _, p⟩ := h
    exact p.elim⟩
/-- every def keeps its promise, at every depth -/
theorem kept_all {ds : List Def} (s : Stat J P wd K mg base loc ar)
    (h : ∀ n, Tb J P wd K mg base (tabP ds n).1 (tabP ds n).2 (n + 40) → Kept J P wd K mg base loc ar (tabP ds (n + 1)).1 (n + 42)) : ∀ n, Kept J P wd K mg base loc ar (tabP ds n).1 (n + 41) ∧ Kept J P wd K mg base loc ar (tabP ds n).2 (n + 40)
  | 0 => ⟨kept_none s, kept_none s⟩
  | n + 1 => by
    obtain ⟨a, b⟩ := kept_all s h n
    refine ⟨h n (tb_of (by omega) s a b), ?_⟩
    rw [show n + 1 + 40 = n + 41 by omega]
    exact a
theorem cok_of {N ps : List Str} {qual : Str} {sc : Scope} {fa : Addr} {cdv : Value} {A : Around} {outer : List PySem.Env} {s : Shared} {H : Hp} {E : XK} (T : Tb J P wd K mg base F Fi k) (S : FnScope N ps sc) (hr : Room (k + 1) (A.deeper (envOfC qual sc s.heap.objs.size fa cdv))) :
    Cok J (cxOf (L2.CX P wd) P wd K mg base N qual sc fa cdv A outer s H E) (fun cls dd _ H' => E cls dd H') F Fi k :=
  ⟨T, rfl, S.nd, takes_of rfl rfl rfl rfl, passes_of rfl, hr, by have := hr.dp; have := T.ge; show _ + 100 < _; unfold cxOf; dsimp only; omega, ⟨_, _, rfl, S.gen, S.co, rfl, rfl⟩⟩
end
theorem lk_all {α : Type} {P : Nat → α → Prop} : ∀ {L : List (Nat × α)}, (∀ p ∈ L, P p.1 p.2) → ∀ f v, L.lookup f = some v → P f v
  | [], _, f, v, e => by cases e
  | (g, u) :: L, h, f, v, e => by
    rw [List.lookup_cons] at e
    cases q : f == g with
    | true =>
      rw [q] at e
      have e : u = v := by simpa using e
      have : f = g := by simpa using q
      subst this e
      exact h (f, u) List.mem_cons_self
    | false =>
      rw [q] at e
      exact lk_all (fun p m => h p (List.mem_cons_of_mem _ m)) f v e
theorem lks_all {α : Type} {P : Str → α → Prop} : ∀ {L : List (Str × α)}, (∀ p ∈ L, P p.1 p.2) → ∀ f v, L.lookup f = some v → P f v
  | [], _, f, v, e => by cases e
  | (g, u) :: L, h, f, v, e => by
    rw [List.lookup_cons] at e
    cases q : f == g with
    | true =>
      rw [q] at e
      have e : u = v := by simpa using e
      have : f = g := by simpa using q
      subst this e
      exact h (f, u) List.mem_cons_self
    | false =>
      rw [q] at e
      exact lks_all (fun p m => h p (List.mem_cons_of_mem _ m)) f v e
theorem mem_all {α : Type} [BEq α] [LawfulBEq α] {P : α → Prop} {L : List α} (h : ∀ p ∈ L, P p) : ∀ x, L.contains x = true → P x := fun x e => h x (by simpa using e)
theorem all_nil {α : Type} {P : α → Prop} : ∀ p ∈ ([] : List α), P p := fun p h => by cases h
theorem all_cons {α : Type} {P : α → Prop} {a : α} {l : List α} (h : P a) (t : ∀ p ∈ l, P p) : ∀ p ∈ a :: l, P p := fun p m => by
  rcases List.mem_cons.mp m with e | m
  · rw [e]; exact h
  · exact t p m
/-- a part kept in a larger one -/
theorem frag_l {K L : PySem.W.Frag} {a : Addr} {o : Obj} (h : K.lookup a = some o) : (K ++ L).lookup a = some o := by
  induction K with
  | nil => cases h
  | cons p K ih =>
    obtain ⟨b, u⟩ := p
    rw [List.cons_append, List.lookup_cons]
    rw [List.lookup_cons] at h
    split at h
    · exact h
    · exact ih h
theorem frag_or {K L : PySem.W.Frag} {a : Addr} {o : Obj} (h : (K ++ L).lookup a = some o) : K.lookup a = some o ∨ L.lookup a = some o := by
  induction K with
  | nil => exact .inr h
  | cons p K ih =>
    obtain ⟨b, u⟩ := p
    rw [List.cons_append, List.lookup_cons] at h
    rw [List.lookup_cons]
    split at h
    · exact .inl h
    · exact ih h
theorem frag_some {K L : PySem.W.Frag} {a : Addr} {o : Obj} (h : L.lookup a = some o) : ∃ u, (K ++ L).lookup a = some u := by
  induction K with
  | nil => exact ⟨o, h⟩
  | cons p K ih =>
    obtain ⟨b, u⟩ := p
    rw [List.cons_append, List.lookup_cons]
    split
    · exact ⟨u, rfl⟩
    · exact ih
theorem lk5 {a b c d e x : Addr} {oa ob oc od oe u : Obj} (h : ([(a, oa), (b, ob), (c, oc), (d, od), (e, oe)] : PySem.W.Frag).lookup x = some u) : (x = a ∧ u = oa) ∨ (x = b ∧ u = ob) ∨ (x = c ∧ u = oc) ∨ (x = d ∧ u = od) ∨ (x = e ∧ u = oe) := by
  simp only [List.lookup_cons, List.lookup_nil] at h
  split at h
  · rename_i q; cases h; exact .inl ⟨by simpa using q, rfl⟩
  split at h
  · rename_i q; cases h; exact .inr (.inl ⟨by simpa using q, rfl⟩)
  split at h
  · rename_i q; cases h; exact .inr (.inr (.inl ⟨by simpa using q, rfl⟩))
  split at h
  · rename_i q; cases h; exact .inr (.inr (.inr (.inl ⟨by simpa using q, rfl⟩)))
  split at h
  · rename_i q; cases h; exact .inr (.inr (.inr (.inr ⟨by simpa using q, rfl⟩)))
  · cases h
/-- what _pylong's room wants of the heap, as objects that a base may keep -/
theorem seer_frag {h : Heap} (z : h.NoSeer) : ∃ L : PySem.W.Frag, (∀ a o, L.lookup a = some o → h.get? a = some o ∧ ∀ its n, o.cls = .type "list" → o.data ≠ .seq its n) ∧ ∀ base : Heap, (∀ a o, L.lookup a = some o → base.get? a = some o) → base.NoSeer := by
  obtain ⟨⟨m1, ⟨o1, e1, p1, a1, d1, r1⟩, y1⟩, ⟨m2, ⟨o2, e2, p2, a2, d2, r2⟩, y2⟩, ⟨m3, ⟨o3, e3, p3, a3, d3, r3⟩, y3⟩, ⟨m4, b4, o5, ⟨o4, e4, p4, a4, d4, r4⟩, y4, a5, y5, y6⟩⟩ := z
  refine ⟨[(cStatics, o1), (sysModules, o2), (builtinsNs, o3), (mainGlobals, o4), (b4, o5)], fun a o q => ?_, fun base q => ?_⟩
  · rcases lk5 q with ⟨rfl, rfl⟩ | ⟨rfl, rfl⟩ | ⟨rfl, rfl⟩ | ⟨rfl, rfl⟩ | ⟨rfl, rfl⟩
    · exact ⟨a1, fun its n _ z => by rw [d1] at z; cases z⟩
    · exact ⟨a2, fun its n _ z => by rw [d2] at z; cases z⟩
    · exact ⟨a3, fun its n _ z => by rw [d3] at z; cases z⟩
    · exact ⟨a4, fun its n _ z => by rw [d4] at z; cases z⟩
    · exact ⟨a5, fun its n c _ => absurd (y5.symm.trans c) (by simp)⟩
  · have g : ∀ a o, h.get? a = some o → (∃ u, ([(cStatics, o1), (sysModules, o2), (builtinsNs, o3), (mainGlobals, o4), (b4, o5)] : PySem.W.Frag).lookup a = some u) → base.get? a = some o := fun a o ha ⟨u, hu⟩ => by
      have e := q a u hu
      rcases lk5 hu with ⟨rfl, rfl⟩ | ⟨rfl, rfl⟩ | ⟨rfl, rfl⟩ | ⟨rfl, rfl⟩ | ⟨rfl, rfl⟩
      · rw [a1] at ha; cases ha; exact e
      · rw [a2] at ha; cases ha; exact e
      · rw [a3] at ha; cases ha; exact e
      · rw [a4] at ha; cases ha; exact e
      · rw [a5] at ha; cases ha; exact e
    have s : ∀ (a : Addr), a = cStatics ∨ a = sysModules ∨ a = builtinsNs ∨ a = mainGlobals ∨ a = b4 → ∃ u, ([(cStatics, o1), (sysModules, o2), (builtinsNs, o3), (mainGlobals, o4), (b4, o5)] : PySem.W.Frag).lookup a = some u := fun a ha => by
      simp only [List.lookup_cons, List.lookup_nil]
      repeat' split
      all_goals first | exact ⟨_, rfl⟩ | (exfalso; simp_all)
    exact ⟨⟨m1, ⟨o1, e1, p1, g _ _ a1 (s _ (by simp)), d1, r1⟩, y1⟩, ⟨m2, ⟨o2, e2, p2, g _ _ a2 (s _ (by simp)), d2, r2⟩, y2⟩, ⟨m3, ⟨o3, e3, p3, g _ _ a3 (s _ (by simp)), d3, r3⟩, y3⟩, ⟨m4, b4, o5, ⟨o4, e4, p4, g _ _ a4 (s _ (by simp)), d4, r4⟩, y4, g _ _ a5 (s _ (by simp)), y5, y6⟩⟩
/-- a promise over a part is one over a larger part -/
theorem fn_more {P : Program} {wd : World} {K L : PySem.W.Frag} {mg : Str → Option Value} {base : Heap} {CX : CXT} {k : Nat} {f : Addr} {fd : FuncData} {ps : List Str} {sp : Sp} (h : FnOk P wd K mg base CX k f fd ps sp) : FnOk P wd (K ++ L) mg base CX k f fd ps sp :=
  ⟨h.len, fun A outer s H args us vs Q E hr e hb r z => h.run A outer s H args us vs Q E hr ⟨e.frames, ⟨fun a o q => e.mod.kin a o (frag_l q), e.mod.glob, e.mod.blt, e.mod.nolimit⟩, e.bs, e.bsz, e.funs, e.frf, e.hok, e.bare⟩ hb r z⟩
/-- the end of a law -/
theorem law_end {l : PySem.W.OpenLaw} {q : Program} {loose : List Str} {XP : (Str → Option Value) → Heap → Prop} {YP : World → Heap → Prop} {d : DefRec} {K : Params → PySem.W.Frag} {k f : Nat} {F : FnTab} {sg : Sg}
    (hn : l.most = some 63) (hdf : d.params.defaults = []) (hr : Room k callerA) (hi : importsNone q = true) (hY : ∀ (w : World) (h : Heap), YP w h → (K w.params).In h)
    (hF : ∀ (w : World) (mg : Str → Option Value) (fa : Addr) (h : Heap), (K w.params).In h → h.Ns mainGlobals mg → mg d.name = some (.ref fa) →
      ∃ fd : FuncData, (∀ (s : Shared) (u : Value), BindsTo s fd ⟨[u], []⟩ [("script", u)]) ∧ ∀ base : Heap, (K w.params).In base → base.Ns mainGlobals mg → base.NoSeer →
        ∃ G XG : Nat → Option Addr, FnOk l.prog w (K w.params) mg base (L2.CX l.prog w) k fa fd ["script"] (spOf ((Jn.mk sg G XG none).inf (K w.params)) F f 1))
    (hlaw : ∀ ns : List Int, ns.length ≤ 63 → (∀ z ∈ ns, Builtin.Int.intBits z ≤ 1048576) → ∃ S, F f [.d (.lsx (ns.map D.int))] [] = .ok (.d (.bl true)) S) :
    PySem.W.WalkO q loose XP YP l.row.toRowW d [] (fun f vs => PySem.call f vs) := by
  refine Att.attach_callB hn hdf fun w sa sb mg mb fa ofn pm cd doc a vs ns GR YH _ _ _ hmg hobj hints hlen hbits hg => ?_
  have KX := hY w _ YH
  obtain ⟨L, hL1, hL2⟩ := seer_frag (GR.T.seer hi)
  obtain ⟨fd, hb, hF⟩ := hF w mg fa _ KX GR.T.g hmg
  have KL : PySem.W.Frag.In (K w.params ++ L) sb.heap := fun b o q => (frag_or q).elim (KX b o) fun q => (hL1 b o q).1
  refine law_call (K := K w.params ++ L) (CX := L2.CX l.prog w) (sp := fun vs H Q E => ∃ (a : Addr) (ns : List Int), vs = [.ref a] ∧ SqL (K w.params) H a (ns.map V.int) ∧ ns.length ≤ 63 ∧ (∀ z ∈ ns, Builtin.Int.intBits z ≤ 1048576) ∧ (∀ v H', v = .bl true → Q v H')) KL GR.T.g GR.T.b GR.T.builtins GR.T.nolimit hg hobj hints (Nat.le_trans hlen (by decide)) hr (fun base hK hN => ?_) hb (fun H hO hS => ?_) fun H e s' z => ?_
  · have hKl : (K w.params).In base := fun b o q => hK b o (frag_l q)
    have see : base.NoSeer := hL2 base fun b o q => by
      obtain ⟨u, hu⟩ := frag_some (K := K w.params) q
      have h1 := KL b u hu
      rw [(hL1 b o q).1] at h1
      cases h1
      exact hK b _ hu
    obtain ⟨GG, XX, ok⟩ := hF base hKl hN see
    refine fn_more (ok.imp fun vs H Q E ⟨a, ns, e, hS, hl, hbits, hq⟩ => ?_)
    subst e
    obtain ⟨S', e⟩ := hlaw ns hl hbits
    have sim : Sim ((Jn.mk sg GG XX none).inf (K w.params)) [] [] H := ⟨rfl, fun i j a c d e => (by simp at e), fun a m => (by cases m), fun i o a e => (by simp at e), fun i o e => (by simp at e)⟩
    have hm : mask [] [] H = H := by
      funext a
      unfold mask
      rw [if_neg]
      rintro ⟨i, o, e, _⟩
      simp at e
    refine ⟨rfl, [.d (.lsx (ns.map D.int))], [], [], sim, .cons ?_ .nil, ?_⟩
    · rw [hm]
      refine .lsx (vs := ns.map V.int) hS ?_
      clear hS hl hbits e
      induction ns with
      | nil => exact .nil
      | cons n ns ih => exact .cons (.int n) ih
    · rw [e]
      intro v H' M' l' s' r
      cases r
      exact hq _ _ rfl
  · refine ⟨a, ns, rfl, ?_, hlen, hbits, fun v H' e => e⟩
    rcases hS with h | ⟨o, its, n, h1, h2, h3, h4, h5, h6⟩
    · exact .inl h
    · rcases frag_or h1 with h | h
      · exact .inr ⟨o, its, n, h, h2, h3, h4, h5, h6⟩
      · exact absurd h4 ((hL1 a o h).2 its n h2)
  · obtain ⟨a, B, H', cls, dd, _, _, _, _, _, _, _, hh⟩ := z
    exact hh
end Py
namespace Py
open PySem PySem.Spec PyProof.Rows L2
def WF : Nat := 1000000000
theorem bt_len : bootBuiltins "len" = some (.builtin "len") := by decide +kernel
theorem bt_abs : bootBuiltins "abs" = some (.builtin "abs") := by decide +kernel
theorem bt_max : bootBuiltins "max" = some (.builtin "max") := by decide +kernel
theorem bt_min : bootBuiltins "min" = some (.builtin "min") := by decide +kernel
theorem bt_sum : bootBuiltins "sum" = some (.builtin "sum") := by decide +kernel
theorem bt_any : bootBuiltins "any" = some (.builtin "any") := by decide +kernel
theorem bt_all : bootBuiltins "all" = some (.builtin "all") := by decide +kernel
theorem bt_sorted : bootBuiltins "sorted" = some (.builtin "sorted") := by decide +kernel
theorem bt_int : bootBuiltins "int" = some (.type "int") := by decide +kernel
theorem bt_bool : bootBuiltins "bool" = some (.type "bool") := by decide +kernel
theorem bt_str : bootBuiltins "str" = some (.type "str") := by decide +kernel
theorem bt_list : bootBuiltins "list" = some (.type "list") := by decide +kernel
theorem bt_tuple : bootBuiltins "tuple" = some (.type "tuple") := by decide +kernel
theorem bt_dict : bootBuiltins "dict" = some (.type "dict") := by decide +kernel
/-- a chain of two comparisons as a test -/
theorem st_chain {X : Cx} {I : Inf} {w : WX} {a b c : Expr} {da db dc : DE} {pos : Pos} {op op' : CmpOp} {f g : W → W → Sto → R W} (ho : OpR X (compareOp op) (rdOp I f)) (ho' : OpR X (compareOp op') (rdOp I g)) (ha : PE X a (rdE I w da)) (hb : PE X b (rdE I w db)) (hc : PE X c (rdE I w dc))
    (hm : lastMarks [op, op'] [b, c] = false := by with_unfolding_all rfl) : PT X (.Compare a [op, op'] [b, c] pos) (rdT I w (dTb (dChain f g da db dc))) :=
  PT_imp (pt_chain ho ho' ha hb hc hm) fun σ H Q q => by
    obtain ⟨e, S, M, sim, sl, p⟩ := q
    have q : rdE I w (dChain f g da db dc) σ H (fun x H' => ∃ k, x = .bl k ∧ Q k H') := by
      refine ⟨e, S, M, sim, sl, ?_⟩
      have p : EndR I S M H (fun _ _ a b => a = b) Q (fun cls dd H' => w cls dd σ H') ((dChain f g da db dc e S).bind fun x S1 => match x with
        | .d (.bl b) => .ok b S1
        | _ => .bad) := p
      refine (EndR.bind (rel1 := RepW I) p).imp fun v H1 ⟨x, S1, M1, l1, s1, r1, p1⟩ => ?_
      split at p1
      · cases r1
        exact ⟨_, rfl, p1.here s1 rfl⟩
      · exact p1.elim
    obtain ⟨e, S, M, sim, sl, p⟩ := q
    refine ⟨e, S, M, sim, sl, (EndR.bind (rel1 := RepW I) p).imp fun v H1 ⟨x, S1, M1, l1, s1, r1, p1⟩ => ?_⟩
    refine ⟨e, S1, M1, s1, sl.mono l1, (EndR.bind (rel1 := RepW I) p1).imp fun u H2 ⟨y, S2, M2, l2, s2, r2, p2⟩ => ?_⟩
    refine ⟨x, y, S2, M2, s2, r1.mono l2, r2, ((EndR.bind (rel1 := RepW I) p2).ne (E' := E0)).imp fun z H3 ⟨d, S3, M3, l3, s3, r3, p3⟩ => ?_⟩
    split at p3
    · cases r3
      refine ⟨_, rfl, ?_⟩
      split at p3
      · rename_i h
        rw [if_pos h]
        refine ⟨e, S3, M3, s3, ((sl.mono l1).mono l2).mono l3, (EndR.bind (rel1 := RepW I) p3).imp fun u4 H4 ⟨z4, S4, M4, l4, s4, r4, p4⟩ => ?_⟩
        exact ⟨y, z4, S4, M4, s4, (r2.mono l3).mono l4, r4, p4.ne⟩
      · rename_i h
        rw [if_neg h]
        exact p3.here s3 (.bl _)
    · exact p3.elim
end Py

namespace Py
open PySem PySem.Spec PyProof.Rows L2
/-- variables given up ahead of a statement: what they hold is plain data from now on -/
@[simp] def sFrz (i : Nat) (s : DS) : DS := fun e S => match e[i]? with
  | some (some w) => bindS (frz w S) e fun w' S' => s (e.set i (some w')) S'
  | _ => .bad
@[simp] def dMkK (mm kk : Nat) (g : List W → Sto → R W) (a b : DA) : DE := fun e S => (a e S).bind fun ws S1 => (b e S1).bind fun us S2 => if ws.length = mm ∧ us.length = kk then g (ws ++ us) S2 else .bad
@[simp] def dProp (Fi : FnTab) (c f : Nat) (o : DE) : DE := fun e S => (o e S).bind fun x S1 => if isC c x S1 = true then (Fi f [x] S1).ne else .bad
section
variable {J : Jn} {X : Cx} {I : Inf} {w : WX} {F Fi : FnTab} {k : Nat} {a b c e o : Expr} {es rest : List Expr} {da db dc d_o : DE} {dr d2 : DA} {pos p p2 : Pos} {st : Stmt} {ds : DS} {x m : Str} {f n cc nf : Nat} {kws : List Keyword}
theorem frz_at {S S' : Sto} {M : List Addr} {H : Hp} {u u' : W} {v : V} (s : Sim I S M H) (r : RepW I M (mask S M H) u v) (e : frz u S = .ok u' S') : Sim I S' M H ∧ Le S M H S' M H ∧ RepW I M (mask S' M H) u' v := by
  cases u with
  | d x => cases e; exact ⟨s, Le.refl, r⟩
  | e c x => cases e
  | c i =>
    dsimp only [frz] at e
    split at e
    · rename_i ws hc
      split at e
      · rename_i xs hx
        cases e
        obtain ⟨a, ea, rfl⟩ := r
        obtain ⟨vs, ho, rw'⟩ := s.cell i _ a hc ea
        obtain ⟨s', l⟩ := s.kill hc
        refine ⟨s', l, .lst ?_ ((plainL_rep rw' hx).mono l.ex)⟩
        rw [mask_dead s hc ea]
        exact ho
      · cases e
    · cases e
theorem frz_ne (u : W) (S : Sto) : (∃ u' S', frz u S = .ok u' S') ∨ frz u S = .bad := by
  unfold frz
  repeat' split
  all_goals first
    | exact .inl ⟨_, _, rfl⟩
    | exact .inr rfl
theorem ss_frz {i : Nat} (h : PS X st (rdS I w ds)) : PS X st (rdS I w (sFrz i ds)) := PS_imp h fun D σ H ⟨env, S, M, s, sl, p⟩ => by
  unfold sFrz at p
  split at p
  · rename_i u hu
    rcases frz_ne u S with ⟨u', S', e⟩ | e
    · rw [e] at p
      obtain ⟨v, hv, r⟩ := sl.get i u hu
      obtain ⟨s', l, r'⟩ := frz_at s r e
      refine ⟨env.set i (some u'), S', M, s', ?_, EndS.up (r := ds (env.set i (some u')) S') p l⟩
      have h := (sl.mono l).set (i := i) r'
      have : σ.set i (some v) = σ := by
        refine List.ext_getElem? fun m => ?_
        rw [List.getElem?_set]
        by_cases q : i = m
        · subst q
          rw [if_pos rfl, hv, if_pos (List.getElem?_eq_some_iff.mp hv).1]
        · rw [if_neg q]
      rw [this] at h
      exact h
    · rw [e] at p
      exact p.elim
  · exact p.elim
theorem sk_nil : PK X [] (rdA I w dNil) := ⟨fun pos pins s σ H Q In ⟨e, S, M, sim, sl, p⟩ => pk_nil.run pos pins s σ H Q In (EndR.here (rel := RepWs I) p sim .nil)⟩
theorem sk_cons {nm : Option Str} {kpos : Pos} (ha : PE X a (rdE I w da)) (hr : PK X kws (rdA I w dr)) : PK X (⟨nm, a, kpos⟩ :: kws) (rdA I w (dCons da dr)) :=
  ⟨fun pos pins s σ H Q In h => (pk_cons ha hr).run pos pins s σ H Q In (by
    obtain ⟨e, S, M, sim, sl, p⟩ := h
    refine ⟨e, S, M, sim, sl, (EndR.bind (rel1 := RepW I) p).imp fun v H1 ⟨x, S1, M1, l1, s1, r1, p1⟩ => ?_⟩
    refine ⟨e, S1, M1, s1, sl.mono l1, (EndR.bind (rel1 := RepWs I) p1).imp fun u H2 ⟨y, S2, M2, l2, s2, r2, p2⟩ => ?_⟩
    exact p2.here s2 (.cons (r1.mono l2) r2))⟩
theorem sx_mkK {mm : Nat} {ks : List Str} (t : Cok J X w F Fi k) (h : J.sg.kw cc = some (x, f, n, mm, ks)) (hnf : (J.sg.fl cc).length = nf) (ha : PA X (e :: es) (rdA (J.inf X.K) w dr)) (hkw : PK X kws (rdA (J.inf X.K) w d2)) (hm1 : (e :: es).length = mm := by rfl) (hm2 : kws.length = ks.length := by rfl) (hg : Gl X x := by rfl)
    (hall : (backToKw pos (keywordEach kws X.env)).all (·.1.isSome) = true := by rfl) (hks : (backToKw pos (keywordEach kws X.env)).filterMap (·.1) = ks := by rfl)
    (hdb : (x == ("__debug__" : Str)) = false := by decide) (he : starEach (e :: es) X.env = (false, eval e X.env) :: starEach es X.env := by rfl)
    (hpl : ((backTo pos (starEach (e :: es) X.env)).any (·.1) || (backToKw pos (keywordEach kws X.env)).any (·.1.isNone)) = false := by rfl) :
    PE X (.Call (.Name x p) (e :: es) kws pos) (rdE (J.inf X.K) w (dMkK mm ks.length (mkF Fi cc f n nf) dr d2)) := by
  obtain ⟨C, fa, fd, ps, h1, h2, h3, h4, h5⟩ := t.makeK cc x f n mm ks h
  refine PE_imp (pe_makeK (E := WE w) h3 h4 t.room hg h2 h5 (fun σ => passAt t.tk σ) ha hkw hall hks hdb he hpl) fun σ H Q q => ?_
  obtain ⟨e, S, M, s, sl, p⟩ := q
  refine ⟨e, S, M, s, sl, (EndR.bind (rel1 := RepWs (J.inf X.K)) p).imp fun vs H1 ⟨ws, S1, M1, l1, s1, r1, p1⟩ => ?_⟩
  refine ⟨e, S1, M1, s1, sl.mono l1, (EndR.bind (rel1 := RepWs (J.inf X.K)) p1).imp fun zs H2 ⟨us, S2, M2, l2, s2, r2, p2⟩ => ?_⟩
  split at p2
  · rename_i hl
    refine ⟨(Paired.length r1).symm.trans hl.1, (Paired.length r2).symm.trans hl.2, fun y dy ny nd ne => mkF_end hnf s2 (RepWs.app (RepWs.mono l2 r1) r2) h1 p2 ny nd ne⟩
  · exact p2.elim
theorem sx_prop (t : Cok J X w F Fi k) (h : J.sg.prop f = some (cc, m)) (ho : PE X o (rdE (J.inf X.K) w d_o)) (hab : attributeBase o m X.env (eval o X.env) = eval o X.env := by rfl) : PE X (.Attribute o m pos) (rdE (J.inf X.K) w (dProp Fi cc f d_o)) := by
  obtain ⟨C, pr, g, fd, ps, h1, h2, h3, h4⟩ := t.prop f cc m h
  refine PE_imp (pe_prop (dvs := []) (E := E0) ho (t.cls cc C h1) h2 h3 t.room h4 .nil passL hab) fun σ H Q q => rd_one (f := fun _ x S1 => if isC cc x S1 = true then (Fi f [x] S1).ne else .bad) q fun y v e S M H s sl r p => ?_
  split at p
  · rename_i hy
    obtain ⟨b, C', dx, vs, rfl, g, hb⟩ := recv_at s r hy
    have : C' = C := by
      have g' : J.G cc = some C' := g
      rw [h1] at g'
      exact (Option.some.inj g').symm
    subst this
    exact ⟨b, dx, _, rfl, hb, rfl, [y], S, M, s, .cons r .nil, p.ne⟩
  · exact p.elim
end
end Py

/-! Py13: more of the language: enumerate. -/
namespace Py
open PySem PySem.Spec PyProof.Rows L2
/-! ### enumerate of a list or tuple -/
set_option maxHeartbeats 1000000 in
theorem enum_meets {v : Value} {o : Obj} {H : Heap → Prop} (B : Begins v o H) :
    Meets (Builtin.«enumerate.__new__» ⟨[.type "enumerate", v], []⟩) (fun _ R s => H s.heap ∧
      R (.ok (.ret (.ref (s.heap.push o).objs.size))) { s with heap := (s.heap.push o).push { cls := .type "enumerate", data := .fields #[.none, .bool false, .ref s.heap.objs.size, rawInt 0, .none, .none] } }) :=
  .of_wp fun pr wd A R s h => by
    obtain ⟨hp, g, d, tk, os⟩ := s
    obtain ⟨h1, h⟩ := h
    have hsub := sub_enumerate
    have its : ∀ {A' : Around} {E Q : Value → Shared → Prop}, Q (.ref hp.objs.size) ⟨hp.push o, g, d, tk, os⟩ → wpAny (model pr wd) A' (pyIter v) Q E ⟨hp, g, d, tk, os⟩ := fun q => B.iter _ _ _ _ ⟨hp, g, d, tk, os⟩ _ h1 q
    wp_walk using its
    refine wpAny_stack_any fun _ => wpAny_pure ?_; split
    · rename_i c _ _ _ _ _
      cases (c == Value.type "enumerate") <;> (wp_walk using its; exact ⟨_, rfl, h⟩)
    · wp_walk using its
      exact ⟨_, rfl, h⟩
theorem enum_call {prog : Program} {w : World} {A : Around} {E : Value → Shared → Prop} {s : Shared} {v : Value} {o : Obj} {H : Heap → Prop} {Q : Value → Shared → Prop} (B : Begins v o H) (h1 : H s.heap)
    (h : ∀ h', IsEnum h' (s.heap.objs.size + 1) s.heap.objs.size 0 .none → h'.get? s.heap.objs.size = some o → (∀ b o, s.heap.get? b = some o → h'.get? b = some o) → Q (.ref (s.heap.objs.size + 1)) { s with heap := h' }) :
    wpAny (model prog w) A (call (.type "enumerate") [v]) Q E s := by
  refine callType_new F.called_enumerate (by decide) (F.typeCall_enumerate_1 _) (F.newCall_enumerate_1 _) (fun x => F.args_object_init_2 x _) F.entry_enumerate_new (enum_meets B) ⟨h1, ?_⟩
  have hz : (s.heap.push o).objs.size = s.heap.objs.size + 1 := Heap.size_push ..
  show _ ∧ _
  rw [hz]
  have he : IsEnum ((s.heap.push o).push { cls := .type "enumerate", data := .fields #[.none, .bool false, .ref s.heap.objs.size, rawInt 0, .none, .none] }) (s.heap.objs.size + 1) s.heap.objs.size 0 .none := by
    have q := Heap.get?_push_size (s.heap.push o) (o := { cls := .type "enumerate", data := .fields #[.none, .bool false, .ref s.heap.objs.size, rawInt 0, .none, .none] }) rfl
    rwa [hz] at q
  exact ⟨⟨_, he, rfl⟩, h _ he (Heap.get?_push_of_some _ (Heap.get?_push_size _ B.free)) fun b o x => Heap.get?_push_of_some _ (Heap.get?_push_of_some _ x)⟩
/-- the tuple at a, each item in a new pair -/
def IteT (K : PySem.W.Frag) (a : Addr) : It :=
  ⟨fun i H => ∃ (xs : List V) (x : V), SqT K H a xs ∧ xs[i]? = some x, fun i H v H' => ∃ T x, v = .ref T ∧ H T = none ∧ H' = upd H T (.tup [.int (i : Nat), x]) ∧ ∀ xs, SqT K H a xs → xs[i]? = some x, fun i H => ∃ xs : List V, SqT K H a xs ∧ xs.length = i⟩
theorem turn_enumT {P : Program} {w : World} {K : PySem.W.Frag} {elts : List Expr} {kk : Nat} {tpos : Pos} {a e it : Addr} (ea : e ≠ a) (ia : it ≠ a) :
    Turn P w K (.Tuple elts kk tpos) (IteT K a) [e, it] e (fun i h => (∃ old, IsEnum h e it ((i : Nat) : Int) old) ∧ h.IsTupleIter it a i ∧ e ≠ it) where
  mem := by simp
  obj := fun i h st b hb => by
    obtain ⟨⟨old, he⟩, ⟨o, ho, hc, hd⟩, _⟩ := st
    rcases (by simpa using hb : b = e ∨ b = it) with rfl | rfl
    · exact ⟨_, he, fun v q => nomatch q⟩
    · exact ⟨o, ho, fun v q => by rw [hd] at q; cases q⟩
  keep := fun i h h' st k => let ⟨⟨old, he⟩, hi, hne⟩ := st; ⟨⟨old, k e (by simp) _ he⟩, hi.at fun o q => k it (by simp) o q, hne⟩
  item := by
    intro X hP hw hK hc i pins s σ H E In hf st hg
    subst hP hw hK
    obtain ⟨⟨old, he⟩, hit, hne⟩ := st
    obtain ⟨xs, x, hq, hx⟩ := hg
    obtain ⟨its, rv, p, hz⟩ := In.tuple hq
    obtain ⟨u, hu, ru⟩ := rv.get hx
    have hel : e < s.heap.objs.size := Heap.lt_size he
    have hil : it < s.heap.objs.size := by obtain ⟨_, q, _⟩ := hit; exact Heap.lt_size q
    have hlt : i < its.toArray.size := by
      have := (List.getElem?_eq_some_iff.mp hu).1
      simpa using this
    refine wpAny_pyNext_enum_itemC (Draws.tuple (A := X.A.in1) (In.ok.hd hc) it a (Ne.symm ia) its.toArray) he ⟨hit, p⟩ hlt hne (by simp [hne, ea]) fun y h' tk hy ho hit' hT hsz hk => ?_
    have : y = u := by
      have hy : its.toArray[i]? = some y := hy
      rw [List.getElem?_toArray, hu] at hy
      exact (Option.some.inj hy).symm
    subst this
    obtain ⟨hit', _⟩ := hit'
    refine ⟨_, rfl, wpAny_letOwnedTupleGo_enum (s := { s with heap := h', toks := tk + 1 }) ho fun h'' he' sb => ?_⟩
    have hT2 : h''.get? s.heap.objs.size = some { cls := .type "tuple", data := .seq #[.int i tk, y] } := (sb.2 _ (Nat.ne_of_gt hel)).trans hT
    have nw : ObjOk X.prog X.w (upd H s.heap.objs.size (.tup [.int (i : Nat), x])) h'' s.heap.objs.size (.tup [.int (i : Nat), x]) :=
      ⟨by show 2 ≤ sizeLine; decide, [.int i tk, y], .cons ⟨_, rfl⟩ (.cons ru .nil), ⟨_, hT2, rfl, _, rfl⟩⟩
    have I1 : Inv X pins σ (upd H s.heap.objs.size (.tup [.int (i : Nat), x])) { s with heap := h'', toks := tk + 1 } :=
      In.turnedNew (ch := [e, it]) (fun b ob hb q => (sb.2 b (fun z => hb (by simp [z]))).trans (hk b ob (fun z => hb (by simp [z])) (fun z => hb (by simp [z])) q)) hf (Nat.le_refl _) nw
    refine ⟨.ref s.heap.objs.size, _, I1, rfl, ⟨_, x, rfl, In.hok.fresh (Nat.le_refl _), rfl, fun ys hy => by rw [In.tuple_inj hy hq]; exact hx⟩, ⟨⟨y, ?_⟩, hit'.at fun o q => (sb.2 it (Ne.symm hne)).trans q, hne⟩, fun b hb => ?_⟩
    · rw [show ((i + 1 : Nat) : Int) = (i : Int) + 1 by omega]; exact he'
    · have hb' : b < s.heap.objs.size := by
        rcases (by simpa using hb : b = e ∨ b = it) with rfl | rfl
        · exact hel
        · exact hil
      rw [upd_ne (Nat.ne_of_lt hb')]
      exact (hf b hb).1
  done := by
    intro X hP hw hK hc i pins s σ H E In hf st hg
    subst hP hw hK
    obtain ⟨⟨old, he⟩, hit, hne⟩ := st
    obtain ⟨xs, hq, hx⟩ := hg
    obtain ⟨its, rv, p, hz⟩ := In.tuple hq
    obtain ⟨f0, f1, f2, f3, f4, f5⟩ := hf it (by simp)
    have hl := rv.length
    have hi : i = its.toArray.size := by simp; omega
    subst hi
    exact wpAny_pyNext_enum_endD (Draws.tuple (A := X.A.in1) (In.ok.hd hc) it a (Ne.symm ia) its.toArray) he ⟨hit, p⟩ fun h' eb => ⟨rfl, In.turned (t' := s.toks) (fun b o hb q => eb b o hb q) f0 f1 f3 f4 f5⟩
  self := fun A i s Q E st h => let ⟨⟨_, he⟩, _⟩ := st; wpAny_pyIter_enum he h
/-- the text z, each sign in a new pair -/
def IteS (z : Str) : It :=
  ⟨fun i _ => i < z.cps.size, fun i H v H' => ∃ T c, v = .ref T ∧ H T = none ∧ H' = upd H T (.tup [.int (i : Nat), .str ⟨#[c]⟩]) ∧ z.cps[i]? = some c, fun i _ => z.cps.size = i⟩
theorem turn_enumS {P : Program} {w : World} {K : PySem.W.Frag} {elts : List Expr} {kk : Nat} {tpos : Pos} {e it : Addr} (z : Str) (t : Tok) :
    Turn P w K (.Tuple elts kk tpos) (IteS z) [e, it] e (fun i h => (∃ old, IsEnum h e it ((i : Nat) : Int) old) ∧ h.IsStrIter it (strIterType z) z t i ∧ e ≠ it) where
  mem := by simp
  obj := fun i h st b hb => by
    obtain ⟨⟨old, he⟩, ⟨o, ho, hc, hd⟩, _⟩ := st
    rcases (by simpa using hb : b = e ∨ b = it) with rfl | rfl
    · exact ⟨_, he, fun v q => nomatch q⟩
    · exact ⟨o, ho, fun v q => by rw [hd] at q; cases q⟩
  keep := fun i h h' st k => let ⟨⟨old, he⟩, ⟨o, ho, r⟩, hne⟩ := st; ⟨⟨old, k e (by simp) _ he⟩, ⟨o, k it (by simp) o ho, r⟩, hne⟩
  item := by
    intro X hP hw hK hc i pins s σ H E In hf st hg
    subst hP hw hK
    obtain ⟨⟨old, he⟩, hit, hne⟩ := st
    have hel : e < s.heap.objs.size := Heap.lt_size he
    have hil : it < s.heap.objs.size := by obtain ⟨_, q, _⟩ := hit; exact Heap.lt_size q
    have hlt : i < z.cps.size := hg
    refine wpAny_pyNext_enum_itemC (Draws.text (A := X.A.in1) (In.ok.hd hc) it z t) he hit hlt hne (by simp [hne]) fun y h' tk hy ho hit' hT hsz hk => ?_
    obtain ⟨c, u, hcx, rfl⟩ := hy
    refine ⟨_, rfl, wpAny_letOwnedTupleGo_enum (s := { s with heap := h', toks := tk + 1 }) ho fun h'' he' sb => ?_⟩
    have hT2 : h''.get? s.heap.objs.size = some { cls := .type "tuple", data := .seq #[.int i tk, .str ⟨#[c]⟩ u] } := (sb.2 _ (Nat.ne_of_gt hel)).trans hT
    have nw : ObjOk X.prog X.w (upd H s.heap.objs.size (.tup [.int (i : Nat), .str ⟨#[c]⟩])) h'' s.heap.objs.size (.tup [.int (i : Nat), .str ⟨#[c]⟩]) :=
      ⟨by show 2 ≤ sizeLine; decide, [.int i tk, .str ⟨#[c]⟩ u], .cons ⟨_, rfl⟩ (.cons ⟨_, rfl⟩ .nil), ⟨_, hT2, rfl, _, rfl⟩⟩
    have I1 : Inv X pins σ (upd H s.heap.objs.size (.tup [.int (i : Nat), .str ⟨#[c]⟩])) { s with heap := h'', toks := tk + 1 } :=
      In.turnedNew (ch := [e, it]) (fun b ob hb q => (sb.2 b (fun z => hb (by simp [z]))).trans (hk b ob (fun z => hb (by simp [z])) (fun z => hb (by simp [z])) q)) hf (Nat.le_refl _) nw
    refine ⟨.ref s.heap.objs.size, _, I1, rfl, ⟨_, c, rfl, In.hok.fresh (Nat.le_refl _), rfl, hcx⟩, ⟨⟨.str ⟨#[c]⟩ u, ?_⟩, (let ⟨o, ho, r⟩ := hit'; ⟨o, (sb.2 it (Ne.symm hne)).trans ho, r⟩), hne⟩, fun b hb => ?_⟩
    · rw [show ((i + 1 : Nat) : Int) = (i : Int) + 1 by omega]; exact he'
    · have hb' : b < s.heap.objs.size := by
        rcases (by simpa using hb : b = e ∨ b = it) with rfl | rfl
        · exact hel
        · exact hil
      rw [upd_ne (Nat.ne_of_lt hb')]
      exact (hf b hb).1
  done := by
    intro X hP hw hK hc i pins s σ H E In hf st hg
    subst hP hw hK
    obtain ⟨⟨old, he⟩, hit, hne⟩ := st
    have hg : z.cps.size = i := hg
    obtain ⟨f0, f1, f2, f3, f4, f5⟩ := hf it (by simp)
    have hD := Draws.text (A := X.A.in1) (prog := X.prog) (w := X.w) (In.ok.hd hc) it z t
    subst hg
    exact wpAny_pyNext_enum_endD hD he hit fun h' eb => ⟨rfl, In.turned (t' := s.toks) (fun b o hb q => eb b o hb q) f0 f1 f3 f4 f5⟩
  self := fun A i s Q E st h => let ⟨⟨_, he⟩, _⟩ := st; wpAny_pyIter_enum he h
def iEnumA (K : PySem.W.Frag) (ta : TA) : TI := fun σ H R => ta σ H fun vs H1 => (∃ a xs, vs = [.ref a] ∧ ((SqL K H1 a xs ∧ R (Ite K a) H1) ∨ (SqT K H1 a xs ∧ R (IteT K a) H1))) ∨ ∃ z, vs = [.str z] ∧ R (IteS z) H1
theorem pi_enumA {X : Cx} {e : Expr} {ta : TA} {p pos tpos : Pos} {elts : List Expr} {kk : Nat} (hg : Gl X "enumerate") (hm : X.mg "enumerate" = none) (ha : PA X [e] ta) (hs : starEach [e] X.env = [(false, eval e X.env)] := by rfl) :
    PI X (.Tuple elts kk tpos) (.Call (.Name "enumerate" p) [e] [] pos) (iEnumA X.K ta) := by
  refine ⟨fun pins s σ H R In h => ?_⟩
  refine Call_ (ld_blt In hg hm boot_enumerate (PyProof.Rows.callWith_type1 (thn (ha.run pos pins s σ H _ In h) fun us s1 ⟨vs, H1, I1, r1, q1⟩ => ?_) hs rfl))
  rcases q1 with ⟨a, xs, rfl, q1⟩ | ⟨z, rfl, q1⟩
  case inr =>
    cases r1 with
    | cons r rr =>
      cases rr
      obtain ⟨t, rfl⟩ := r
      have fp : ∀ b ∈ [s1.heap.objs.size + 1, s1.heap.objs.size], FpOk X pins H1 b := fun b hb => by
        have hle : s1.heap.objs.size ≤ b := by
          rcases (by simpa using hb : b = s1.heap.objs.size + 1 ∨ b = s1.heap.objs.size) with rfl | rfl
          · exact Nat.le_add_right _ _
          · exact Nat.le_refl _
        exact I1.fpOk hle (I1.hok.fresh hle)
      refine enum_call (begins_text z t) trivial fun h' he hit hk => wpAny_pyIter_enum he ?_
      exact ⟨_, [s1.heap.objs.size + 1, s1.heap.objs.size], _, _, H1, rfl, I1.kept (t' := s1.toks) hk, turn_enumS (e := s1.heap.objs.size + 1) (it := s1.heap.objs.size) z t, ⟨⟨.none, he⟩, ⟨_, hit, rfl, rfl⟩, Nat.succ_ne_self _⟩, fp, q1⟩
  cases r1 with
  | cons r rr =>
    cases rr
    cases r
    have fp : ∀ b ∈ [s1.heap.objs.size + 1, s1.heap.objs.size], FpOk X pins H1 b := fun b hb => by
      have hle : s1.heap.objs.size ≤ b := by
        rcases (by simpa using hb : b = s1.heap.objs.size + 1 ∨ b = s1.heap.objs.size) with rfl | rfl
        · exact Nat.le_add_right _ _
        · exact Nat.le_refl _
      exact I1.fpOk hle (I1.hok.fresh hle)
    rcases q1 with ⟨hq, q⟩ | ⟨hq, q⟩
    · obtain ⟨its, rv, p', hz⟩ := I1.list hq
      refine enum_call (begins_list a its.toArray) p'.isList fun h' he hit hk => wpAny_pyIter_enum he ?_
      exact ⟨_, [s1.heap.objs.size + 1, s1.heap.objs.size], _, _, H1, rfl, I1.kept (t' := s1.toks) hk, turn_enum a (s1.heap.objs.size + 1) s1.heap.objs.size, ⟨⟨.none, he⟩, ⟨_, hit, rfl, rfl⟩, Nat.succ_ne_self _⟩, fp, q⟩
    · obtain ⟨its, rv, p', hz⟩ := I1.tuple hq
      have hlt : a < s1.heap.objs.size := by obtain ⟨o, ho, _⟩ := p'; exact Heap.lt_size ho
      refine enum_call (begins_tuple a its.toArray) p' fun h' he hit hk => wpAny_pyIter_enum he ?_
      exact ⟨_, [s1.heap.objs.size + 1, s1.heap.objs.size], _, _, H1, rfl, I1.kept (t' := s1.toks) hk, turn_enumT (a := a) (e := s1.heap.objs.size + 1) (it := s1.heap.objs.size) (Nat.ne_of_gt (Nat.lt_succ_of_lt hlt)) (Nat.ne_of_gt hlt), ⟨⟨.none, he⟩, ⟨_, hit, rfl, rfl⟩, Nat.succ_ne_self _⟩, fp, q⟩
/-- the items with their places -/
def enumP (xs : List D) : List W := xs.zipIdx.map fun p => W.d (.tup [.int (p.2 : Nat), p.1])
def enumO : W → Sto → Option (List W × (Sto → Prop))
  | .d (.tup xs), _ => some (enumP xs, fun _ => True)
  | .d (.str z), _ => some (enumP (z.cps.toList.map fun c => D.str ⟨#[c]⟩), fun _ => True)
  | x, S => match lsOf x S with
    | some ws => match plainL ws with
      | some xs => some (enumP xs, fun S' => lsOf x S' = some ws)
      | none => none
    | none => none
def iEnum (a : DE) : DI := fun e S => (a e S).bind fun x S1 => ofO (enumO x S1) S1
theorem enumP_len {xs : List D} : (enumP xs).length = xs.length := by unfold enumP; simp
theorem enumP_get {xs : List D} {i : Nat} {x : W} (h : (enumP xs)[i]? = some x) : ∃ d, xs[i]? = some d ∧ x = .d (.tup [.int (i : Nat), d]) := by
  unfold enumP at h
  rw [List.getElem?_map, List.getElem?_zipIdx] at h
  cases q : xs[i]? with
  | none => rw [q] at h; cases h
  | some d =>
    rw [q] at h
    simp at h
    exact ⟨d, rfl, h.symm⟩
section
variable {J : Jn} {X : Cx} {I : Inf} {w : WX} {F Fi : FnTab} {k : Nat} {a b c e o tg iter elt : Expr} {da db dc d_o el : DE} {pos p p2 : Pos}
theorem wk_enumL {a : Addr} {xs : List D} {gd : Sto → Prop} {S : Sto} {M : List Addr} {H : Hp} (h : ∀ S2 M2 Hs, Le S M H S2 M2 Hs → Sim I S2 M2 Hs → gd S2 → ∃ vs, SqL I.K Hs a vs ∧ Reps I (mask S2 M2 Hs) xs vs) : WalkI I (Ite I.K a) (enumP xs) gd S M H where
  item := fun S2 M2 Hs H2 l s ex hg i x hx => by
    obtain ⟨vs, h1, r1⟩ := h S2 M2 Hs l s hg
    obtain ⟨d, e1, rfl⟩ := enumP_get hx
    obtain ⟨v, f1, g1⟩ := reps_get r1 e1
    refine ⟨⟨vs, v, ex_l ex h1, f1⟩, fun w H3 hy => .inr ?_⟩
    obtain ⟨T, v', rfl, nT, rfl, k1⟩ := hy
    have q := k1 vs (ex_l ex h1)
    rw [f1] at q
    cases q
    exact ⟨T, [.int (i : Nat), v], [.int (i : Nat), d], nT, rfl, rfl, rfl, .cons (.int _) (.cons g1 .nil)⟩
  stop := fun S2 M2 Hs H2 l s ex hg => by
    obtain ⟨vs, h1, r1⟩ := h S2 M2 Hs l s hg
    exact ⟨vs, ex_l ex h1, by rw [enumP_len, r1.len]; exact Nat.le_refl _⟩
theorem wk_enumT {a : Addr} {xs : List D} {gd : Sto → Prop} {S : Sto} {M : List Addr} {H : Hp} (h : ∀ S2 M2 Hs, Le S M H S2 M2 Hs → Sim I S2 M2 Hs → gd S2 → ∃ vs, SqT I.K Hs a vs ∧ Reps I (mask S2 M2 Hs) xs vs) : WalkI I (IteT I.K a) (enumP xs) gd S M H where
  item := fun S2 M2 Hs H2 l s ex hg i x hx => by
    obtain ⟨vs, h1, r1⟩ := h S2 M2 Hs l s hg
    obtain ⟨d, e1, rfl⟩ := enumP_get hx
    obtain ⟨v, f1, g1⟩ := reps_get r1 e1
    refine ⟨⟨vs, v, ex_t ex h1, f1⟩, fun w H3 hy => .inr ?_⟩
    obtain ⟨T, v', rfl, nT, rfl, k1⟩ := hy
    have q := k1 vs (ex_t ex h1)
    rw [f1] at q
    cases q
    exact ⟨T, [.int (i : Nat), v], [.int (i : Nat), d], nT, rfl, rfl, rfl, .cons (.int _) (.cons g1 .nil)⟩
  stop := fun S2 M2 Hs H2 l s ex hg => by
    obtain ⟨vs, h1, r1⟩ := h S2 M2 Hs l s hg
    exact ⟨vs, ex_t ex h1, by rw [enumP_len, r1.len]⟩
theorem wk_enumS {z : Str} {gd : Sto → Prop} {S : Sto} {M : List Addr} {H : Hp} : WalkI I (IteS z) (enumP (z.cps.toList.map fun c => D.str ⟨#[c]⟩)) gd S M H where
  item := fun S2 M2 Hs H2 l s ex hg i x hx => by
    obtain ⟨d, e1, rfl⟩ := enumP_get hx
    rw [List.getElem?_map] at e1
    cases q : z.cps.toList[i]? with
    | none => rw [q] at e1; cases e1
    | some c =>
      rw [q] at e1
      have e1 : D.str ⟨#[c]⟩ = d := by simpa using e1
      subst e1
      have q' : z.cps[i]? = some c := by rw [← Array.getElem?_toList]; exact q
      refine ⟨(Array.getElem?_eq_some_iff.mp q').1, fun w H3 hy => .inr ?_⟩
      obtain ⟨T, c', rfl, nT, rfl, k1⟩ := hy
      rw [q'] at k1
      cases k1
      exact ⟨T, [.int (i : Nat), .str ⟨#[c]⟩], [.int (i : Nat), .str ⟨#[c]⟩], nT, rfl, rfl, rfl, .cons (.int _) (.cons (.str _) .nil)⟩
  stop := fun S2 M2 Hs H2 l s ex hg => by
    show z.cps.size = _
    rw [enumP_len]
    simp
theorem si_enumerate {elts : List Expr} {kk : Nat} {tpos : Pos} (t : Cok J X w F Fi k) (hb : J.sg.blt "enumerate" = true) (ha : PE X a (rdE (J.inf X.K) w da)) (hg : Gl X "enumerate" := by rfl) (hs : starEach [a] X.env = [(false, eval a X.env)] := by rfl)
    (hs2 : starEach [a] X.env = (false, eval a X.env) :: starEach [] X.env := by rfl) : PI X (.Tuple elts kk tpos) (.Call (.Name "enumerate" p) [a] [] pos) (rdI (J.inf X.K) w (iEnum da)) :=
  PI_imp (pi_enumA hg (t.glb _ hb) (pa_cons ha pa_nil hs2) hs) fun σ H R ⟨env, S, M, sim, sl, p⟩ => by
    refine rdI_at (R := R) (f := fun x S1 => ofO (enumO x S1) S1) sim sl p fun x v S1 M1 H1 l1 s1 sl1 r1 p1 => ?_
    obtain ⟨q, hq, kk⟩ := EndI.of p1 s1
    unfold enumO at hq
    split at hq
    · cases hq
      cases r1 with
      | tup h1 q1 =>
        exact .inl ⟨_, _, rfl, .inr ⟨ex_t mask_ex h1, kk _ (wk_enumT fun S3 M3 Hs l s3 _ => ⟨_, ex_t (l.ex.trans mask_ex) h1, q1.mono l.ex⟩)⟩⟩
    · cases hq
      cases r1
      exact .inr ⟨_, rfl, kk _ wk_enumS⟩
    · split at hq
      · rename_i ws ea
        split at hq
        · rename_i xs hx
          cases hq
          obtain ⟨b, vs, rfl, h1, q1⟩ := lsOf_at s1 r1 ea
          refine .inl ⟨b, vs, rfl, .inl ⟨h1, kk _ (wk_enumL fun S3 M3 Hs l s3 hg => ?_)⟩⟩
          obtain ⟨b', vs', e1, h1', q1'⟩ := lsOf_at s3 (r1.mono l) hg
          cases e1
          exact ⟨vs', h1', plainL_reps q1' hx⟩
        · cases hq
      · cases hq
end
end Py
/-! ### lists that hold cells: given up, numbered anew -/
namespace Py
open PySem PySem.Spec PyProof.Rows L2
/-- each item given up -/
def frzs : List W → Sto → Option (List D × Sto)
  | [], S => some ([], S)
  | .d x :: r, S => match frzs r S with
    | some (xs, S') => some (x :: xs, S')
    | none => none
  | .c j :: r, S => match S[j]? with
    | some (.lst us) => match plainL us with
      | some ys => match frzs r (S.set j .dead) with
        | some (xs, S') => some (.lst ys :: xs, S')
        | none => none
      | none => none
    | _ => none
  | .e _ _ :: _, _ => none
/-- a list of lists given up -/
def frz2 : W → Sto → R W
  | .d x, S => .ok (.d x) S
  | .c i, S => match S[i]? with
    | some (.lst ws) => match frzs ws S with
      | some (xs, S') => match S'[i]? with
        | some (.lst _) => .ok (.d (.lst xs)) (S'.set i .dead)
        | _ => .bad
      | none => .bad
    | _ => .bad
  | .e _ _, _ => .bad
def sFrz2 (i : Nat) (s : DS) : DS := fun e S => match e[i]? with
  | some (some w) => bindS (frz2 w S) e fun w' S' => s (e.set i (some w')) S'
  | _ => .bad
/-- the cell is numbered anew, as the last one -/
def mv : W → Sto → R W
  | .d x, S => .ok (.d x) S
  | .c i, S => match S[i]? with
    | some .dead => .bad
    | some o => .ok (.c S.length) (S.set i .dead ++ [o])
    | none => .bad
  | .e _ _, _ => .bad
def sMv (i : Nat) (s : DS) : DS := fun e S => match e[i]? with
  | some (some w) => bindS (mv w S) e fun w' S' => s (e.set i (some w')) S'
  | _ => .bad
section
variable {J : Jn} {X : Cx} {I : Inf} {w : WX} {F Fi : FnTab} {k : Nat} {st : Stmt} {ds : DS}
theorem frzs_at {H : Hp} {M : List Addr} : ∀ {ws : List W} {vs : List V} {S S' : Sto} {xs : List D}, Sim I S M H → RepWs I M (mask S M H) ws vs → frzs ws S = some (xs, S') → Sim I S' M H ∧ Le S M H S' M H ∧ Reps I (mask S' M H) xs vs
  | [], _, S, S', xs, s, .nil, e => by
    cases e
    exact ⟨s, Le.refl, .nil⟩
  | .d x :: r, _, S, S', xs, s, .cons h t, e => by
    unfold frzs at e
    split at e
    · rename_i ys S2 q
      cases e
      obtain ⟨a, b, c⟩ := frzs_at s t q
      exact ⟨a, b, .cons (Rep.mono b.ex h) c⟩
    · cases e
  | .c j :: r, _, S, S', xs, s, .cons h t, e => by
    unfold frzs at e
    split at e
    · rename_i us hc
      split at e
      · rename_i ys hy
        split at e
        · rename_i zs S2 q
          cases e
          obtain ⟨a, ea, rfl⟩ := h
          obtain ⟨vs, ho, rw'⟩ := s.cell j _ a hc ea
          obtain ⟨s', l⟩ := s.kill hc
          obtain ⟨a1, b1, c1⟩ := frzs_at s' (RepWs.mono l t) q
          have h1 : Rep I (mask (S.set j .dead) M H) (.lst ys) (.ref a) := .lst (by rw [mask_dead s hc ea]; exact ho) ((plainL_rep rw' hy).mono l.ex)
          exact ⟨a1, l.trans b1, .cons (h1.mono b1.ex) c1⟩
        · cases e
      · cases e
    · cases e
  | .e _ _ :: _, _, S, S', xs, s, .cons h t, e => by
    unfold frzs at e
    cases e
theorem frz2_at {S S' : Sto} {M : List Addr} {H : Hp} {u u' : W} {v : V} (s : Sim I S M H) (r : RepW I M (mask S M H) u v) (e : frz2 u S = .ok u' S') : ∃ M', Sim I S' M' H ∧ Le S M H S' M' H ∧ RepW I M' (mask S' M' H) u' v := by
  refine ⟨M, ?_⟩
  cases u with
  | d x => cases e; exact ⟨s, Le.refl, r⟩
  | e c x => cases e
  | c i =>
    unfold frz2 at e
    dsimp only at e
    split at e
    · rename_i ws hc
      split at e
      · rename_i xs S1 hx
        split at e
        · rename_i h1
          cases e
          obtain ⟨a, ea, rfl⟩ := r
          obtain ⟨vs, ho, rw'⟩ := s.cell i _ a hc ea
          obtain ⟨s1, l1, r1⟩ := frzs_at s rw' hx
          obtain ⟨s2, l2⟩ := s1.kill h1
          refine ⟨s2, l1.trans l2, .lst ?_ (r1.mono l2.ex)⟩
          rw [mask_dead s1 h1 ea]
          exact ho
        · cases e
      · cases e
    · cases e
theorem mv_at {S S' : Sto} {M : List Addr} {H : Hp} {u u' : W} {v : V} (s : Sim I S M H) (r : RepW I M (mask S M H) u v) (e : mv u S = .ok u' S') : ∃ M', Sim I S' M' H ∧ Le S M H S' M' H ∧ RepW I M' (mask S' M' H) u' v := by
  cases u with
  | d x => cases e; exact ⟨M, s, Le.refl, r⟩
  | e c x => cases e
  | c i =>
    unfold mv at e
    dsimp only at e
    split at e
    · cases e
    · rename_i o hne hc
      cases e
      obtain ⟨a, ea, rfl⟩ := r
      obtain ⟨s', l⟩ := s.move hc ea hne
      refine ⟨M ++ [a], s', l, a, ?_, rfl⟩
      rw [← s.len, List.getElem?_append_right (Nat.le_refl _), Nat.sub_self]
      rfl
    · cases e
/-- a slot's value put into another form ahead of a statement -/
theorem ss_form {f : W → Sto → R W} {i : Nat} (hne : ∀ u S, (∃ u' S', f u S = .ok u' S') ∨ f u S = .bad) (hf : ∀ {S S' : Sto} {M : List Addr} {H : Hp} {u u' : W} {v : V}, Sim I S M H → RepW I M (mask S M H) u v → f u S = .ok u' S' → ∃ M', Sim I S' M' H ∧ Le S M H S' M' H ∧ RepW I M' (mask S' M' H) u' v)
    (h : PS X st (rdS I w ds)) : PS X st (rdS I w fun e S => match e[i]? with
      | some (some w) => bindS (f w S) e fun w' S' => ds (e.set i (some w')) S'
      | _ => .bad) := PS_imp h fun D σ H ⟨env, S, M, s, sl, p⟩ => by
  dsimp only at p
  split at p
  · rename_i u hu
    rcases hne u S with ⟨u', S', e⟩ | e
    · rw [e] at p
      obtain ⟨v, hv, r⟩ := sl.get i u hu
      obtain ⟨M', s', l, r'⟩ := hf s r e
      refine ⟨env.set i (some u'), S', M', s', ?_, EndS.up (r := ds (env.set i (some u')) S') p l⟩
      have h := (sl.mono l).set (i := i) r'
      have : σ.set i (some v) = σ := by
        refine List.ext_getElem? fun m => ?_
        rw [List.getElem?_set]
        by_cases q : i = m
        · subst q
          rw [if_pos rfl, hv, if_pos (List.getElem?_eq_some_iff.mp hv).1]
        · rw [if_neg q]
      rwa [this] at h
    · rw [e] at p
      exact p.elim
  · exact p.elim
theorem frz2_ne (u : W) (S : Sto) : (∃ u' S', frz2 u S = .ok u' S') ∨ frz2 u S = .bad := by
  unfold frz2
  repeat' split
  all_goals first
    | exact .inl ⟨_, _, rfl⟩
    | exact .inr rfl
theorem mv_ne (u : W) (S : Sto) : (∃ u' S', mv u S = .ok u' S') ∨ mv u S = .bad := by
  unfold mv
  repeat' split
  all_goals first
    | exact .inl ⟨_, _, rfl⟩
    | exact .inr rfl
theorem ss_frz2 {i : Nat} (h : PS X st (rdS I w ds)) : PS X st (rdS I w (sFrz2 i ds)) := ss_form frz2_ne frz2_at h
theorem ss_mv {i : Nat} (h : PS X st (rdS I w ds)) : PS X st (rdS I w (sMv i ds)) := ss_form mv_ne mv_at h
end
end Py
/-! ### in, not in; methods of built-in types -/
namespace Py
open PySem PySem.Spec PyProof.Rows L2
/-- is the text one sign -/
def sign1 (x : Str) : Option Nat := match x.cps.toList with
  | [c] => some c
  | _ => none
def inS (x z : Str) : Option Bool := (sign1 x).map fun c => decide (c ∈ z.cps.toList)
def flatD : D → Bool
  | .non => true | .bl _ => true | .int _ => true | .str _ => true
  | _ => false
def eqD0 : D → D → Bool
  | .non, .non => true
  | .bl a, .bl b => a == b
  | .bl a, .int b => (if a then 1 else 0) == b
  | .int a, .bl b => a == (if b then 1 else 0)
  | .int a, .int b => a == b
  | .str a, .str b => a == b
  | _, _ => false
def inT (neg : Bool) (x : D) (ys : List D) (S : Sto) : R W := if flatD x = true ∧ ys.all flatD = true then .ok (.d (.bl (if neg then !(ys.any fun y => eqD0 y x) else ys.any fun y => eqD0 y x))) S else .bad
def inL (neg : Bool) (x y : W) (S : Sto) : R W := match wpy x S, wpy y S with
  | some d, some (.list ds) => if shp d = true ∧ shp (.list ds) = true then .ok (.d (.bl (if neg then !ds.any fun z => PyData.eqv z d else ds.any fun z => PyData.eqv z d))) S else .bad
  | _, _ => .bad
def opIn : W → W → Sto → R W
  | .d (.str x), .d (.str z), S => match inS x z with
    | some b => .ok (.d (.bl b)) S
    | none => .bad
  | .d x, .d (.tup ys), S => inT false x ys S
  | x, y, S => inL false x y S
def opNotIn : W → W → Sto → R W
  | .d (.str x), .d (.str z), S => match inS x z with
    | some b => .ok (.d (.bl (!b))) S
    | none => .bad
  | .d x, .d (.tup ys), S => inT true x ys S
  | x, y, S => inL true x y S
section
variable {J : Jn} {X : Cx} {I : Inf} {w : WX} {F Fi : FnTab} {k : Nat} {a b c e o : Expr} {es rest : List Expr} {da db dc d_o : DE} {dr : DA} {pos p p2 : Pos}
theorem sign1_at {x : Str} {c : Nat} (h : sign1 x = some c) : x = ⟨#[c]⟩ := by
  unfold sign1 at h
  split at h
  · rename_i d hd
    cases h
    obtain ⟨⟨l⟩⟩ := x
    have : l = [c] := hd
    rw [this]
  · cases h
theorem flat_rep {H : Hp} {x : D} {v : V} (r : Rep I H x v) (h : flatD x = true) : flatV v = true := by
  cases r <;> first | rfl | cases h
theorem flats_rep {H : Hp} : ∀ {xs : List D} {vs : List V}, Reps I H xs vs → xs.all flatD = true → vs.all flatV = true
  | [], _, .nil, _ => rfl
  | x :: xs, _, .cons r t, h => by
    rw [List.all_cons, Bool.and_eq_true] at h
    rw [List.all_cons, flat_rep r h.1, flats_rep t h.2]
    rfl
theorem eqD0_rep {H : Hp} {x y : D} {v u : V} (rx : Rep I H x v) (ry : Rep I H y u) (h : flatD x = true) (h' : flatD y = true) : eqD0 x y = eqV v u := by
  cases rx <;> first | cases h | skip
  all_goals (cases ry <;> first | rfl | cases h')
theorem any_rep {H : Hp} {x : D} {v : V} (rx : Rep I H x v) (hx : flatD x = true) : ∀ {ys : List D} {us : List V}, Reps I H ys us → ys.all flatD = true → (ys.any fun y => eqD0 y x) = inV v us
  | [], _, .nil, _ => rfl
  | y :: ys, _, .cons r t, h => by
    rw [List.all_cons, Bool.and_eq_true] at h
    unfold inV
    rw [List.any_cons, List.any_cons, eqD0_rep r rx h.1 hx, any_rep rx hx t h.2]
    rfl
theorem o_in (hu : X.A.units + 65 < cLine) : OpR X (compareOp .In) (rdOp ⟨X.K, I.G, I.fl, I.X, I.ex⟩ opIn) := by
  intro pins s σ H v u ov ou Q In rv ru hh
  obtain ⟨x, y, S, M, sim, rx, ry, p⟩ := hh
  unfold opIn at p
  split at p
  · split at p
    · rename_i _ _ x z _ b hb
      cases rx
      cases ry
      unfold inS at hb
      cases hs : sign1 x with
      | none => rw [hs] at hb; cases hb
      | some c =>
        rw [hs] at hb
        cases hb
        exact op_in_sign pins s σ H _ _ ov ou Q In rv ru ⟨c, z, by rw [sign1_at hs], rfl, p.here sim (.bl _)⟩
    · exact p.elim
  · unfold inT at p
    split at p
    · rename_i h
      cases ry with
      | tup h1 r1 =>
        refine op_in_seq pins s σ H _ _ ov ou Q In rv ru ⟨_, _, rfl, .inr (ex_t mask_ex h1), flat_rep (I := ⟨X.K, I.G, I.fl, I.X, I.ex⟩) rx h.1, flats_rep r1 h.2, ?_⟩
        rw [← any_rep (I := ⟨X.K, I.G, I.fl, I.X, I.ex⟩) rx h.1 r1 h.2]
        exact p.here sim (.bl _)
    · exact p.elim
  · unfold inL at p
    split at p
    · rename_i d ds hd he
      split at p
      · rename_i h
        exact op_inD hu pins s σ H _ _ ov ou Q In rv ru ⟨d, ds, wpy_dp sim rx hd, wpy_dp sim ry he, h.1, h.2, p.here sim (.bl _)⟩
      · exact p.elim
    · exact p.elim
theorem o_notin (hu : X.A.units + 65 < cLine) : OpR X (compareOp .NotIn) (rdOp ⟨X.K, I.G, I.fl, I.X, I.ex⟩ opNotIn) := by
  intro pins s σ H v u ov ou Q In rv ru hh
  obtain ⟨x, y, S, M, sim, rx, ry, p⟩ := hh
  unfold opNotIn at p
  split at p
  · split at p
    · rename_i _ _ x z _ b hb
      cases rx
      cases ry
      unfold inS at hb
      cases hs : sign1 x with
      | none => rw [hs] at hb; cases hb
      | some c =>
        rw [hs] at hb
        cases hb
        exact op_notIn_sign pins s σ H _ _ ov ou Q In rv ru ⟨c, z, by rw [sign1_at hs], rfl, p.here sim (.bl _)⟩
    · exact p.elim
  · unfold inT at p
    split at p
    · rename_i h
      cases ry with
      | tup h1 r1 =>
        refine op_notIn_seq pins s σ H _ _ ov ou Q In rv ru ⟨_, _, rfl, .inr (ex_t mask_ex h1), flat_rep (I := ⟨X.K, I.G, I.fl, I.X, I.ex⟩) rx h.1, flats_rep r1 h.2, ?_⟩
        rw [← any_rep (I := ⟨X.K, I.G, I.fl, I.X, I.ex⟩) rx h.1 r1 h.2]
        exact p.here sim (.bl _)
    · exact p.elim
  · unfold inL at p
    split at p
    · rename_i d ds hd he
      split at p
      · rename_i h
        exact op_notInD hu pins s σ H _ _ ov ou Q In rv ru ⟨d, ds, wpy_dp sim rx hd, wpy_dp sim ry he, h.1, h.2, p.here sim (.bl _)⟩
      · exact p.elim
    · exact p.elim
/-! methods of texts and lists -/
def tyS (T : String) : W → Sto → Bool
  | .d (.str _), _ => T == "str"
  | .d (.lst _), _ => T == "list"
  | .d (.lsx _), _ => T == "list"
  | .c i, S => match S[i]? with
    | some (.lst _) => T == "list"
    | _ => false
  | _, _ => false
def dBM (T : String) (g : W → List W → Sto → R W) (a : DE) (r : DA) : DE := fun e S => (a e S).bind fun x S1 => if tyS T x S1 = true then ((r e S1).bind fun ws S2 => (g x ws S2).ne) else .bad
def rdMt (I : Inf) (g : W → List W → Sto → R W) : V → List V → Hp → VK → Prop := fun x xs H Q => ∃ (u : W) (us : List W) (S : Sto) (M : List Addr), Sim I S M H ∧ RepW I M (mask S M H) u x ∧ RepWs I M (mask S M H) us xs ∧ EndR I S M H (RepW I) Q E0 (g u us S)
theorem tyS_at {T : String} {S : Sto} {M : List Addr} {H : Hp} {x : W} {v : V} (s : Sim I S M H) (r : RepW I M (mask S M H) x v) (h : tyS T x S = true) : tyV I.K T v H := by
  unfold tyS at h
  split at h
  · cases r; exact beq_iff_eq.mp h
  · cases r with
    | lst h1 q => exact .inl ⟨beq_iff_eq.mp h, _, .inl (.inl (mask_ex _ _ h1))⟩
  · cases r with
    | lsx h1 q => exact .inl ⟨beq_iff_eq.mp h, _, ex_l mask_ex h1⟩
  · split at h
    · obtain ⟨a, ea, rfl⟩ := r
      obtain ⟨vs, ho, q⟩ := s.cell _ _ a (by assumption) ea
      exact .inl ⟨beq_iff_eq.mp h, _, .inl (.inl ho)⟩
    · cases h
  · cases h
theorem sx_bm {T id : String} {name : Str} {apos cpos : Pos} {g : W → List W → Sto → R W} (pa : PlainAttrs T) (slot : Slot T name id) (hty : typeOf (.builtin id) = pure (.type "method_descriptor")) (hm : MtR X id (rdMt ⟨X.K, I.G, I.fl, I.X, I.ex⟩ g)) (ho : PE X o (rdE ⟨X.K, I.G, I.fl, I.X, I.ex⟩ w d_o)) (ha : PA X (e :: es) (rdA ⟨X.K, I.G, I.fl, I.X, I.ex⟩ w dr))
    (hbase : attributeBase o name X.env (eval o X.env) = eval o X.env := by rfl)
    (hfew : ((backTo cpos (starEach (e :: es) X.env)).all (fun x => !x.1) && (backToKw cpos (keywordEach [] X.env)).all (fun x => x.1.isSome)
      && decide ((e :: es).length + ([] : List Keyword).length + (if ([] : List Keyword).isEmpty then 0 else 1) < 30)) = true := by rfl)
    (hline : (apos.endLine == cpos.line) = true := by rfl) (hs : starEach (e :: es) X.env = (false, eval e X.env) :: starEach es X.env := by rfl) (hplain : (backTo cpos (starEach es X.env)).any (·.1) = false := by rfl) :
    PE X (.Call (.Attribute o name apos) (e :: es) [] cpos) (rdE ⟨X.K, I.G, I.fl, I.X, I.ex⟩ w (dBM T g d_o dr)) :=
  PE_imp (pe_bm pa slot hty hm ho ha hbase hfew hline hs hplain) fun σ H Q q => by
    obtain ⟨e, S, M, s, sl, p⟩ := q
    refine ⟨e, S, M, s, sl, (EndR.bind (rel1 := RepW ⟨X.K, I.G, I.fl, I.X, I.ex⟩) p).imp fun v1 H1 ⟨x, S1, M1, l1, s1, r1, p1⟩ => ?_⟩
    split at p1
    · rename_i hx
      refine ⟨tyS_at s1 r1 hx, e, S1, M1, s1, sl.mono l1, (EndR.bind (rel1 := RepWs ⟨X.K, I.G, I.fl, I.X, I.ex⟩) p1).imp fun v2 H2 ⟨y, S2, M2, l2, s2, r2, p2⟩ => ?_⟩
      exact ⟨x, y, S2, M2, s2, r1.mono l2, r2, p2.ne⟩
    · exact p1.elim
theorem sx_bm0 {T id : String} {name : Str} {apos cpos : Pos} {g : W → List W → Sto → R W} (pa : PlainAttrs T) (slot : Slot T name id) (hty : typeOf (.builtin id) = pure (.type "method_descriptor")) (hm : MtR X id (rdMt ⟨X.K, I.G, I.fl, I.X, I.ex⟩ g)) (ho : PE X o (rdE ⟨X.K, I.G, I.fl, I.X, I.ex⟩ w d_o))
    (hbase : attributeBase o name X.env (eval o X.env) = eval o X.env := by rfl) (hline : (apos.endLine == cpos.line) = true := by rfl) : PE X (.Call (.Attribute o name apos) [] [] cpos) (rdE ⟨X.K, I.G, I.fl, I.X, I.ex⟩ w (dBM T g d_o dNil)) :=
  PE_imp (pe_bm0 pa slot hty hm ho hbase hline) fun σ H Q q => by
    obtain ⟨e, S, M, s, sl, p⟩ := q
    refine ⟨e, S, M, s, sl, (EndR.bind (rel1 := RepW ⟨X.K, I.G, I.fl, I.X, I.ex⟩) p).imp fun v1 H1 ⟨x, S1, M1, l1, s1, r1, p1⟩ => ?_⟩
    split at p1
    · rename_i hx
      have p1 : EndR ⟨X.K, I.G, I.fl, I.X, I.ex⟩ S1 M1 H1 (RepW ⟨X.K, I.G, I.fl, I.X, I.ex⟩) Q (fun cls dd H' => w cls dd σ H') ((g x [] S1).ne) := p1
      exact ⟨tyS_at s1 r1 hx, x, [], S1, M1, s1, r1, .nil, p1.ne⟩
    · exact p1.elim
theorem two_of {M : List Addr} {H : Hp} {x : W} {vs : List V} (r : RepWs I M H [x] vs) : ∃ v, vs = [v] ∧ RepW I M H x v := by
  cases r with
  | cons r t => cases t; exact ⟨_, rfl, r⟩
def gSIndex : W → List W → Sto → R W
  | .d (.str a), [.d (.str b)], S => match Builtin.Str.occurrences a b 0 a.length 1 with
    | i :: _ => .ok (.d (.int (i : Nat))) S
    | [] => .bad
  | _, _, _ => .bad
theorem m_sindex : MtR X "str.index" (rdMt ⟨X.K, I.G, I.fl, I.X, I.ex⟩ gSIndex) := by
  intro pins s σ H x xs v us Q In rx rs ⟨u, ws, S, M, sim, ru, rw', p⟩
  unfold gSIndex at p
  split at p
  · split at p
    · rename_i i rest hi
      obtain ⟨v1, rfl, r1⟩ := two_of rw'
      cases ru
      cases r1
      exact mt_sindex pins s σ H _ _ v us Q In rx rs ⟨_, _, i, rest, rfl, rfl, hi, p.here sim (.int _)⟩
    · exact p.elim
  · exact p.elim
def gSFind : W → List W → Sto → R W
  | .d (.str a), [.d (.str b)], S => .ok (.d (.int (Txt.find a b))) S
  | _, _, _ => .bad
theorem m_sfind : MtR X "str.find" (rdMt ⟨X.K, I.G, I.fl, I.X, I.ex⟩ gSFind) := by
  intro pins s σ H x xs v us Q In rx rs ⟨u, ws, S, M, sim, ru, rw', p⟩
  unfold gSFind at p
  split at p
  · obtain ⟨v1, rfl, r1⟩ := two_of rw'
    cases ru
    cases r1
    exact mt_find pins s σ H _ _ v us Q In rx rs ⟨_, _, rfl, rfl, p.here sim (.int _)⟩
  · exact p.elim
def strsL : List W → Option (List Str)
  | [] => some []
  | .d (.str x) :: r => (strsL r).map (x :: ·)
  | _ => none
theorem strsL_map : ∀ {ns : List Str}, strsL ((ns.map D.str).map W.d) = some ns
  | [] => rfl
  | n :: ns => by
    rw [List.map_cons, List.map_cons, strsL, strsL_map]
    rfl
theorem strsL_rep {M : List Addr} {H : Hp} : ∀ {ws : List W} {vs : List V} {ns : List Str}, RepWs I M H ws vs → strsL ws = some ns → vs = ns.map V.str
  | [], _, _, .nil, e => by cases e; rfl
  | .d (.str i) :: ws, _, ns, .cons r t, e => by
    rw [strsL] at e
    cases q : strsL ws with
    | none => rw [q] at e; cases e
    | some ms =>
      rw [q] at e
      cases e
      cases r
      rw [strsL_rep t q]
      rfl
def gSJoin : W → List W → Sto → R W
  | .d (.str a), [x], S => match (seqOf x S).bind strsL with
    | some ys => if (ys.map (·.length)).sum + ys.length * a.length ≤ 16777216 then .ok (.d (.str (Txt.join a ys))) S else .bad
    | none => .bad
  | _, _, _ => .bad
theorem m_sjoin : MtR X "str.join" (rdMt ⟨X.K, I.G, I.fl, I.X, I.ex⟩ gSJoin) := by
  intro pins s σ H x xs v us Q In rx rs ⟨u, ws, S, M, sim, ru, rw', p⟩
  unfold gSJoin at p
  split at p
  · split at p
    · rename_i ys hys
      split at p
      · rename_i hz
        obtain ⟨v1, rfl, r1⟩ := two_of rw'
        cases ru
        cases q : seqOf _ S with
        | none => rw [q] at hys; cases hys
        | some zs =>
          rw [q] at hys
          obtain ⟨a, vs, rfl, h, t⟩ := seqOf_at sim r1 q
          rw [strsL_rep (I := ⟨X.K, I.G, I.fl, I.X, I.ex⟩) t hys] at h
          exact mt_join pins s σ H _ _ v us Q In rx rs ⟨_, a, ys, rfl, rfl, h, hz, p.here sim (.str _)⟩
      · exact p.elim
    · exact p.elim
  · exact p.elim
/-- the cell at i gets other items -/
def putL (i : Nat) (ws : List W) (S : Sto) : Option Sto := if (∀ w ∈ ws, w.lowB i = true) then some (S.set i (.lst ws)) else none
theorem putL_at {S S' : Sto} {M : List Addr} {H : Hp} {i : Nat} {ws ws0 : List W} {vs : List V} {a : Addr} (s : Sim I S M H) (hc : S[i]? = some (.lst ws0)) (ea : M[i]? = some a) (r : RepWs I M (mask S M H) ws vs) (e : putL i ws S = some S') :
    Sim I S' M (upd H a (.lst vs)) ∧ Le S M H S' M (upd H a (.lst vs)) := by
  unfold putL at e
  split at e
  · rename_i h
    cases e
    exact s.write hc ea (by intro z; cases z) (by intro z; cases z) (fun u m => W.lowB_of (h u m)) ⟨_, rfl, r⟩
  · cases e
/-- the items of an own list -/
def lstW : W → Sto → Option (List W)
  | .d (.lst xs), _ => some (xs.map W.d)
  | .c i, S => match S[i]? with
    | some (.lst ws) => some ws
    | _ => none
  | _, _ => none
theorem lstW_at {S : Sto} {M : List Addr} {H : Hp} {x : W} {v : V} {ws : List W} (sim : Sim I S M H) (r : RepW I M (mask S M H) x v) (e : lstW x S = some ws) : ∃ a vs, v = .ref a ∧ H a = some (.lst vs) ∧ RepWs I M (mask S M H) ws vs := by
  unfold lstW at e
  split at e
  · cases e
    cases r with
    | lst h q => exact ⟨_, _, rfl, mask_ex _ _ h, reps_map q⟩
  · split at e
    · rename_i hc
      cases e
      obtain ⟨a, ea, rfl⟩ := r
      obtain ⟨vs, ho, q⟩ := sim.cell _ _ a hc ea
      exact ⟨a, vs, rfl, ho, q⟩
    · cases e
  · cases e
def ofP (o : Option Sto) : R W := match o with
  | some S' => .ok (.d .non) S'
  | none => .bad
def gExtend : W → List W → Sto → R W
  | .c i, [y], S => match S[i]?, lstW y S with
    | some (.lst ws), some zs => if ws.length + zs.length ≤ sizeLine then ofP (putL i (ws ++ zs) S) else .bad
    | _, _ => .bad
  | _, _, _ => .bad
theorem m_extend : MtR X "list.extend" (rdMt ⟨X.K, I.G, I.fl, I.X, I.ex⟩ gExtend) := by
  intro pins s σ H x xs v us Q In rx rs ⟨u, ws, S, M, sim, ru, rw', p⟩
  unfold gExtend at p
  split at p
  · split at p
    · rename_i ws zs hc hz
      split at p
      · rename_i hl
        unfold ofP at p
        split at p
        · rename_i S' hp
          obtain ⟨v1, rfl, r1⟩ := two_of rw'
          obtain ⟨a, ea, rfl⟩ := ru
          obtain ⟨vs, ho, q⟩ := sim.cell _ _ a hc ea
          obtain ⟨b, us, rfl, hb, q2⟩ := lstW_at sim r1 hz
          obtain ⟨s', l'⟩ := putL_at sim hc ea (RepWs.app q q2) hp
          exact mt_extend pins s σ H _ _ v _ Q In rx rs ⟨a, b, vs, us, rfl, rfl, ho, hb, by rw [← Paired.length q, ← Paired.length q2]; exact hl, p .non _ M l' s' .non⟩
        · exact p.elim
      · exact p.elim
    · exact p.elim
  · exact p.elim
def gPop : W → List W → Sto → R W
  | .c i, [], S => match S[i]? with
    | some (.lst ws) => match ws[ws.length - 1]?, putL i ws.dropLast S with
      | some y, some S' => .ok y S'
      | _, _ => .bad
    | _ => .bad
  | .c i, [.d (.int j)], S => match S[i]? with
    | some (.lst ws) => if -(2 ^ 63) ≤ j ∧ j < 2 ^ 63 then (match seqIndex? j ws.length with
      | some m => match ws[m]?, putL i (ws.eraseIdx m) S with
        | some y, some S' => .ok y S'
        | _, _ => .bad
      | none => .bad) else .bad
    | _ => .bad
  | _, _, _ => .bad
theorem dropLast_paired {α β : Type} {R : α → β → Prop} {xs : List α} {ys : List β} (h : Paired R xs ys) : Paired R xs.dropLast ys.dropLast := by
  induction h with
  | nil => exact .nil
  | cons r t ih =>
    cases t with
    | nil => exact .nil
    | cons r2 t2 => exact .cons r ih
theorem erase_paired {α β : Type} {R : α → β → Prop} {xs : List α} {ys : List β} (h : Paired R xs ys) : ∀ n, Paired R (xs.eraseIdx n) (ys.eraseIdx n) := by
  induction h with
  | nil => intro n; exact .nil
  | cons r t ih =>
    intro n
    cases n with
    | zero => exact t
    | succ n => exact .cons r (ih n)
theorem m_pop : MtR X "list.pop" (rdMt ⟨X.K, I.G, I.fl, I.X, I.ex⟩ gPop) := by
  intro pins s σ H x xs v us Q In rx rs ⟨u, ws, S, M, sim, ru, rw', p⟩
  unfold gPop at p
  split at p
  · split at p
    · rename_i ws hc
      split at p
      · rename_i y S' hy hp
        cases rw'
        obtain ⟨a, ea, rfl⟩ := ru
        obtain ⟨vs, ho, q⟩ := sim.cell _ _ a hc ea
        obtain ⟨vy, hv, ry⟩ := paired_get q hy
        obtain ⟨s', l'⟩ := putL_at sim hc ea (dropLast_paired q) hp
        exact mt_pop pins s σ H _ _ v _ Q In rx rs ⟨a, vs, vy, rfl, rfl, ho, by rw [← Paired.length q]; exact hv, p _ _ M l' s' (ry.mono l')⟩
      · exact p.elim
    · exact p.elim
  · split at p
    · rename_i ws hc
      split at p
      · rename_i hj
        split at p
        · rename_i m hm
          split at p
          · rename_i y S' hy hp
            obtain ⟨v1, rfl, r1⟩ := two_of rw'
            cases r1
            obtain ⟨a, ea, rfl⟩ := ru
            obtain ⟨vs, ho, q⟩ := sim.cell _ _ a hc ea
            obtain ⟨vy, hv, ry⟩ := paired_get q hy
            obtain ⟨s', l'⟩ := putL_at sim hc ea (erase_paired q m) hp
            exact mt_popAt pins s σ H _ _ v _ Q In rx rs ⟨a, vs, _, m, vy, rfl, rfl, ho, hj.1, hj.2, by rw [← Paired.length q]; exact hm, hv, p _ _ M l' s' (ry.mono l')⟩
          · exact p.elim
        · exact p.elim
      · exact p.elim
    · exact p.elim
  · exact p.elim
def gInsert : W → List W → Sto → R W
  | .c i, [.d (.int j), y], S => match S[i]? with
    | some (.lst ws) => if ws.length < sizeLine ∧ 0 ≤ j ∧ j < 2 ^ 63 then ofP (putL i (ws.take j.toNat ++ [y] ++ ws.drop j.toNat) S) else .bad
    | _ => .bad
  | _, _, _ => .bad
theorem take_paired {α β : Type} {R : α → β → Prop} {xs : List α} {ys : List β} (h : Paired R xs ys) : ∀ n, Paired R (xs.take n) (ys.take n) ∧ Paired R (xs.drop n) (ys.drop n) := by
  induction h with
  | nil => intro n; rw [List.take_nil, List.take_nil, List.drop_nil, List.drop_nil]; exact ⟨.nil, .nil⟩
  | cons r t ih =>
    intro n
    cases n with
    | zero => exact ⟨.nil, .cons r t⟩
    | succ n => exact ⟨.cons r (ih n).1, (ih n).2⟩
theorem m_insert : MtR X "list.insert" (rdMt ⟨X.K, I.G, I.fl, I.X, I.ex⟩ gInsert) := by
  intro pins s σ H x xs v us Q In rx rs ⟨u, ws, S, M, sim, ru, rw', p⟩
  unfold gInsert at p
  split at p
  · split at p
    · rename_i ws hc
      split at p
      · rename_i hj
        unfold ofP at p
        split at p
        · rename_i S' hp
          cases rw' with
          | cons r1 rr =>
            obtain ⟨v2, rfl, r2⟩ := two_of rr
            cases r1
            obtain ⟨a, ea, rfl⟩ := ru
            obtain ⟨vs, ho, q⟩ := sim.cell _ _ a hc ea
            obtain ⟨s', l'⟩ := putL_at sim hc ea (RepWs.app (RepWs.app (take_paired q _).1 (.cons r2 .nil)) (take_paired q _).2) hp
            exact mt_insert pins s σ H _ _ v _ Q In rx rs ⟨a, vs, _, v2, rfl, rfl, ho, by rw [← Paired.length q]; exact hj.1, hj.2.1, hj.2.2, p .non _ M l' s' .non⟩
        · exact p.elim
      · exact p.elim
    · exact p.elim
  · exact p.elim
/-! bool(x) -/
def gBool : List W → Sto → R W
  | [.d (.int i)], S => .ok (.d (.bl (i != 0))) S
  | [.d (.bl b)], S => .ok (.d (.bl b)) S
  | _, _ => .bad
theorem c_bool : CallR X (.type "bool") (rdCall ⟨X.K, I.G, I.fl, I.X, I.ex⟩ gBool) := by
  intro pins s σ H vs us Q In r hh
  obtain ⟨ws, S, M, sim, rw', p⟩ := hh
  unfold gBool at p
  split at p
  · obtain ⟨v, rfl, rv⟩ := rw'.one
    cases rv
    exact call_bool1 pins s σ H _ us Q In r (.inl ⟨_, rfl, p.here sim (.bl _)⟩)
  · obtain ⟨v, rfl, rv⟩ := rw'.one
    cases rv
    exact call_bool1 pins s σ H _ us Q In r (.inr ⟨_, rfl, p.here sim (.bl _)⟩)
  · exact p.elim
/-! own == -/
def okT (c : Nat) : Option Ty → Bool
  | some (.cls c2) => c2 == c
  | some _ => true
  | none => false
def eqO (F : FnTab) (c f : Nat) (g : W → W → Sto → R W) : W → W → Sto → R W
  | .d (.obj c1 xs), y, S => if c1 = c ∧ okT c (tyOf y S) = true then F f [.d (.obj c1 xs), y] S else .bad
  | x, y, S => g x y S
theorem tyX_looks {X : Cx} {pins : List (Addr × Obj)} {σ : L2.St} {H : Hp} {s : Shared} {x : V} {u t : Value} (In : Inv X pins σ H s) (ty : TyX X.K H x t) (rx : RelV x u) : PySem.W.Looks (model X.prog X.w) s.heap (typeOf u) t := by
  obtain ⟨P, Z, p, _⟩ := kit_of In rx ty
  exact Z.ty _ _ In.kIn p
theorem mro_own (T : String) (C : Addr) (h : T ∈ ["NoneType", "bool", "int", "str", "tuple", "list", "dict"]) (K : PySem.W.Frag) : PySem.W.notFirst K C (.type T) = true := by
  have e : PySem.W.subIn K (.type T) (.ref C) = some false := by
    simp only [List.mem_cons, List.not_mem_nil, or_false] at h
    rcases h with rfl | rfl | rfl | rfl | rfl | rfl | rfl <;> rfl
  unfold PySem.W.notFirst
  rw [e]
  rfl
theorem o_ownEq {J : Jn} {X : Cx} {w : WX} {F Fi : FnTab} {k : Nat} (t : Cok J X w F Fi k) {g : W → W → Sto → R W} {f c : Nat} (h : J.sg.mt f = some (c, ("__eq__" : Str), 2)) (hg : OpR X (compareOp .Eq) (rdOp (J.inf X.K) g)) : OpR X (compareOp .Eq) (rdOp (J.inf X.K) (eqO F c f g)) := by
  intro pins s σ H v u ov ou Q In rv ru hh
  obtain ⟨x, y, S, M, sim, rx, ry, p⟩ := hh
  unfold eqO at p
  split at p
  · split at p
    · rename_i hc
      obtain ⟨rfl, hok⟩ := hc
      obtain ⟨C, fa, fd, ps, h1, h2, h3, h4⟩ := t.meth f _ _ 2 h
      have rx0 := rx
      cases rx with
      | obj g1 e1 l1 q1 =>
      have eC := h1.symm.trans g1
      cases eC
      cases rv
      obtain ⟨od, J1⟩ := obj_look (I := J.inf X.K) In (mask_ex _ _ e1)
      obtain ⟨mm, hF⟩ := In.fr
      have run : wpAny (model X.prog X.w) X.A (call (.ref fa) [.ref _, ou]) (PySem.W.CmpBack (EP X pins σ Q)) X.xe s :=
        wpAny_mono (run_m (m := "__eq__") (c := 0) t h3 h4 In (.cons rel_ref (.cons ru .nil)) rfl sim (.cons rx0 (.cons ry .nil)) p) (fun _ _ z => cmpBack_of z) fun _ _ z => z
      show wpAny _ _ (richCompare .Eq _ ou) _ _ _
      unfold okT at hok
      split at hok
      · rename_i c2 hy
        have hok := beq_iff_eq.mp hok
        subst hok
        rcases ty_at t sim ry hy with ⟨hn, ty⟩ | ⟨c3, C3, e3, g3, ty⟩
        · exact absurd rfl hn
        · cases e3
          have eC := h1.symm.trans g3
          cases eC
          exact PySem.W.cmp_K (op := .Eq) (tb := .ref C) t.room.units0 hF In.ok.mod.kin J1 (tyX_looks In ty ru) (by unfold PySem.W.notFirst; rw [Bool.or_eq_true]; exact .inl (beq_self_eq_true _)) h2.at_ h2.fn run
      · rename_i y0 hne hy
        rcases ty_at t sim ry hy with ⟨hn, ty⟩ | ⟨c3, C3, e3, g3, ty⟩
        · exact PySem.W.cmp_K (op := .Eq) (tb := .type _) t.room.units0 hF In.ok.mod.kin J1 (tyX_looks In ty ru) (mro_own _ _ (nm_mem _ hn) _) h2.at_ h2.fn run
        · exact absurd e3 (hne c3)
      · cases hok
    · exact p.elim
  · exact hg pins s σ H v u ov ou Q In rv ru ⟨x, y, S, M, sim, rx, ry, p⟩
end
end Py
/-! ### comprehensions of two clauses -/
namespace Py
open PySem PySem.Spec PyProof.Rows L2
open Classical in
noncomputable def compL2 (g : GT) (ta : DT) (d1 : DI) (g1 : GT) (t1 : DT) (el : DE) (k1 : List Nat) (gd : Sto → Prop) (env : Env) : List W → Sto → R (List W)
  | [], S => if gd S then .ok [] S else .bad
  | x :: xs, S => if gd S then (match g x env with
    | none => .bad
    | some e1 => (ta e1 S).ne.bind fun c S1 => if c = true then ((d1 e1 S1).ne.bind fun p S2 => (compL g1 t1 el p.2 (uns k1 e1) p.1 S2).bind fun ys S3 => (compL2 g ta d1 g1 t1 el k1 gd env xs S3).bind fun zs S4 => .ok (ys ++ zs) S4) else compL2 g ta d1 g1 t1 el k1 gd env xs S1) else .bad
noncomputable def dComp2 (own : List Nat) (g : GT) (i : DI) (t : DT) (d1 : DI) (g1 : GT) (t1 : DT) (el : DE) (k1 : List Nat) : DE := fun e S => (i e S).bind fun p S1 => (compL2 g t d1 g1 t1 el k1 p.2 (uns own e) p.1 S1).bind fun ws S2 => if ws.length ≤ 16777216 then (match plainL ws with
  | some xs => .ok (.d (.lst xs)) S2
  | none => .bad) else .bad
section
variable {J : Jn} {X : Cx} {I : Inf} {w : WX} {F Fi : FnTab} {k : Nat} {a b c e o tg iter tg1 iter1 elt : Expr} {el : DE} {ta t1 : DT} {pos p p2 : Pos} {di d1 : DI} {g g1 : GT} {vs vs1 : List Nat} {scope : Scope} {own : List (Str × Nat)} {ifs ifs1 : List Expr}
/-- an iterator made while the list is aside -/
theorem PI_aside {t : TI} (h : PI X tg iter t) : PI X tg iter (fun σ H R => ∃ (D : Addr) (xs : List V), H D = some (.lst xs) ∧ t σ (era H D) fun J1 H' => H' D = none → R J1 (upd H' D (.lst xs))) := by
  refine ⟨fun pins s σ H R In ⟨D, xs, hD, q⟩ => ?_⟩
  obtain ⟨h1, h2, its, n, r, z, I1⟩ := inv_aside In hD
  refine wpAny_mono (h.run _ s σ _ _ I1 q) (fun v s1 h3 => wpAny_mono h3 (fun itv s2 h4 => ?_) fun _ _ x => x) fun _ _ x => x
  obtain ⟨it, fp, tn, J1, H', e, I2, T, t0, ff, q2⟩ := h4
  obtain ⟨n2, I3⟩ := inv_back h1 h2 r z I2
  refine ⟨it, fp, tn, J1, _, e, I3, T, t0, fun b hb => ?_, q2 n2⟩
  obtain ⟨f0, f1, f2, f3, f4, f5⟩ := ff b hb
  refine ⟨?_, f1, f2, f3, f4, fun p hp => f5 p ?_⟩
  · have : D ≠ b := f5 (D, { cls := .type "list", data := .seq its.toArray n }) (by simp)
    rw [upd_ne (Ne.symm this)]
    exact f0
  · rcases List.mem_append.mp hp with h | h
    · exact List.mem_append_left _ h
    · exact List.mem_append_right _ (List.mem_append_left _ h)
theorem bind_assoc' {α β γ : Type} {r : R α} {f : α → Sto → R β} {h : β → Sto → R γ} : (r.bind f).bind h = r.bind fun a S => (f a S).bind h := by cases r <;> rfl
/-- the walk of the inner clause -/
theorem inner_walk {J1 : It} {ys : List W} {gd : Sto → Prop} {S0 : Sto} {M0 : List Addr} {H0 : Hp} (wk : WalkI I J1 ys gd S0 M0 H0) (s0 : Sim I S0 M0 H0) {σ : L2.St} {env : Env} (sl : Slots I M0 (mask S0 M0 H0) env σ) {D : Addr} (nD : H0 D = none) {acc : List V} {accW : List W} (ra : RepWs I M0 (mask S0 M0 H0) accW acc)
    {cont : List W → Sto → R W} (hcl : ∀ ws S, cont ws S ≠ .bad → ws.length ≤ 16777216) {Q : VK} {E : XK} {Nx : Hp → Prop}
    (hnx : ∀ (S' : Sto) (M' : List Addr) (Hs : Hp) (accW' : List W) (acc' : List V), Le S0 M0 H0 S' M' Hs → Sim I S' M' Hs → Hs D = none → RepWs I M' (mask S' M' Hs) accW' acc' → EndR I S' M' Hs (RepW I) Q E (cont accW' S') → Nx (upd Hs D (.lst acc')))
    (p : EndR I S0 M0 H0 (RepW I) Q E ((compL g1 t1 el gd (uns vs1 env) ys S0).bind fun zs S3 => cont (accW ++ zs) S3)) :
    ∃ W1 : Nat → Nat → Hp → Prop, (∃ m, W1 0 m (upd H0 D (.lst acc))) ∧ ∀ j k H, W1 j k H →
      (J1.stop j H ∧ Nx H) ∨ (J1.go j H ∧ ∃ Nx1 : Hp → Prop, (∀ H', Nx1 H' → ∃ k', k' < k ∧ W1 (j + 1) k' H') ∧ ∀ x H', J1.yld j H x H' → aG (rdG I g1 vs1) x (wipe σ vs1) H' fun σ3 H5 => wipe σ3 vs1 = wipe σ vs1 ∧ aT (rdT I w0 t1) σ3 H5 fun b H6 =>
        if b = true then aE (rdE I w0 el) σ3 H6 fun y H7 => ∃ acc, H7 D = some (.lst acc) ∧ acc.length < sizeLine ∧ Nx1 (upd H7 D (.lst (acc ++ [y]))) else Nx1 H6) := by
  refine ⟨fun i m H' => ∃ (S' : Sto) (M' : List Addr) (Hs : Hp) (accW : List W) (acc : List V), H' = upd Hs D (.lst acc) ∧ Hs D = none ∧ m = ys.length - i ∧ i ≤ ys.length ∧ Le S0 M0 H0 S' M' Hs ∧ Sim I S' M' Hs ∧ RepWs I M' (mask S' M' Hs) accW acc ∧
      EndR I S' M' Hs (RepW I) Q E ((compL g1 t1 el gd (uns vs1 env) (ys.drop i) S').bind fun zs S3 => cont (accW ++ zs) S3),
    ⟨_, S0, M0, H0, accW, acc, rfl, nD, rfl, Nat.zero_le _, Le.refl, s0, ra, p⟩, fun i m H' ⟨S', M', Hs, accW, acc, eH, nDs, hm, hi, l', s', ra, p'⟩ => ?_⟩
  subst eH
  have exs : Ex Hs (upd Hs D (.lst acc)) := fun a o e => by rw [upd_ne (ne_of_none e nDs)]; exact e
  rcases Nat.lt_or_ge i ys.length with hlt | hge
  · right
    rw [List.drop_eq_getElem_cons hlt] at p'
    have hbad : compL g1 t1 el gd (uns vs1 env) (ys[i] :: ys.drop (i + 1)) S' ≠ .bad := fun z => by rw [z] at p'; exact p'
    have e0 := compL.eq_def g1 t1 el gd (uns vs1 env) (ys[i] :: ys.drop (i + 1)) S'
    dsimp only at e0
    have hgd : gd S' := by
      by_cases z : gd S'
      · exact z
      · rw [if_neg z] at e0
        exact absurd e0 hbad
    rw [if_pos hgd] at e0
    rw [e0] at p'
    clear e0 hbad
    obtain ⟨hgo, hy⟩ := wk.item S' M' Hs _ l' s' exs hgd i _ (List.getElem?_eq_getElem hlt)
    refine ⟨hgo, fun H2 => ∃ (S' : Sto) (M' : List Addr) (Hs : Hp) (accW : List W) (acc : List V), H2 = upd Hs D (.lst acc) ∧ Hs D = none ∧ Le S0 M0 H0 S' M' Hs ∧ Sim I S' M' Hs ∧ RepWs I M' (mask S' M' Hs) accW acc ∧
      EndR I S' M' Hs (RepW I) Q E ((compL g1 t1 el gd (uns vs1 env) (ys.drop (i + 1)) S').bind fun zs S3 => cont (accW ++ zs) S3),
      fun H2 ⟨S', M', Hs, accW, acc, a1, a2, a3, a4, a5, a6⟩ => ⟨_, by omega, S', M', Hs, accW, acc, a1, a2, rfl, hlt, a3, a4, a5, a6⟩, fun v H3 hyl => ?_⟩
    obtain ⟨Hs3, e3, nD3, s3, l3, r3⟩ : ∃ Hs3, H3 = upd Hs3 D (.lst acc) ∧ Hs3 D = none ∧ Sim I S' M' Hs3 ∧ Le S' M' Hs S' M' Hs3 ∧ RepW I M' (mask S' M' Hs3) ys[i] v := by
      rcases hy v H3 hyl with ⟨rfl, r3⟩ | ⟨T, us, zs, nT, rfl, rfl, ex, rs⟩
      · exact ⟨Hs, rfl, nDs, s', Le.refl, r3⟩
      · have TD : T ≠ D := fun z => by rw [z, upd_same] at nT; cases nT
        have nT' : Hs T = none := by rw [upd_ne TD] at nT; exact nT
        obtain ⟨a1, a2⟩ := s'.new (o := .tup us) nT'
        refine ⟨upd Hs T (.tup us), ?_, by rw [upd_ne (Ne.symm TD)]; exact nDs, a1, a2, ?_⟩
        · funext a
          by_cases z1 : a = T
          · rw [z1, upd_same, upd_ne TD, upd_same]
          · rw [upd_ne z1]
            by_cases z2 : a = D
            · rw [z2, upd_same, upd_same]
            · rw [upd_ne z2, upd_ne z2, upd_ne z1]
        · rw [ex]
          exact .tup (.inl (.inl (mask_new s' nT'))) (rs.mono a2.ex)
    subst e3
    refine ⟨D, acc, upd_same, ?_⟩
    rw [era_upd nD3]
    have slb : Slots I M' (mask S' M' Hs3) (uns vs1 env) (wipe σ vs1) := uns_wipe ((sl.mono l').mono l3) vs1
    split at p'
    · exact p'.elim
    rename_i e1 he1
    refine ⟨_, _, S', M', s3, slb, r3, e1, he1, fun σ2 sl2 hw nD4 => ⟨by rw [hw vs1 fun _ h => h]; exact wipe_wipe _ _, D, acc, upd_same, ?_⟩⟩
    rw [era_upd nD4]
    have p' := EndR.up p' l3
    refine ⟨e1, S', M', s3, sl2, ?_⟩
    generalize t1 e1 S' = rt at p' ⊢
    cases rt with
    | bad => exact p'.elim
    | exc c x S2 => exact p'.elim
    | ok cc S2 =>
      intro b H4 M4 l4 s4 eb nD5
      subst eb
      have p' : EndR I S' M' Hs3 (RepW I) Q E ((if cc = true then ((el e1 S2).ne.bind fun y S2 => (compL g1 t1 el gd (uns vs1 env) (ys.drop (i + 1)) S2).bind fun zs S3 => .ok (y :: zs) S3) else compL g1 t1 el gd (uns vs1 env) (ys.drop (i + 1)) S2).bind fun zs S3 => cont (accW ++ zs) S3) := p'
      have p' := EndR.up p' l4
      have l5 := (l'.trans l3).trans l4
      cases cc with
      | false => exact ⟨S2, M4, H4, accW, acc, rfl, nD5, l5, s4, (ra.mono l3).mono l4, p'⟩
      | true =>
        refine ⟨D, acc, upd_same, ?_⟩
        rw [era_upd nD5]
        refine ⟨e1, S2, M4, s4, sl2.mono l4, ?_⟩
        have p' : EndR I S2 M4 H4 (RepW I) Q E (((el e1 S2).ne.bind fun y S2 => (compL g1 t1 el gd (uns vs1 env) (ys.drop (i + 1)) S2).bind fun zs S3 => .ok (y :: zs) S3).bind fun zs S3 => cont (accW ++ zs) S3) := p'
        generalize el e1 S2 = re at p' ⊢
        cases re with
        | bad => exact p'.elim
        | exc c x S3 => exact p'.elim
        | ok y S3 =>
          intro vy H6 M6 l6 s6 ry nD6
          have p' : EndR I S2 M4 H4 (RepW I) Q E (((compL g1 t1 el gd (uns vs1 env) (ys.drop (i + 1)) S3).bind fun zs S3 => .ok (y :: zs) S3).bind fun zs S3 => cont (accW ++ zs) S3) := p'
          have p' := EndR.up p' l6
          have ra6 := ((ra.mono l3).mono l4).mono l6
          rw [bind_assoc'] at p'
          have p' : EndR I S3 M6 H6 (RepW I) Q E ((compL g1 t1 el gd (uns vs1 env) (ys.drop (i + 1)) S3).bind fun zs S3 => cont (accW ++ y :: zs) S3) := p'
          have hb : ∃ zs S4, compL g1 t1 el gd (uns vs1 env) (ys.drop (i + 1)) S3 = .ok zs S4 ∧ cont (accW ++ y :: zs) S4 ≠ .bad := by
            rcases compL_noexc (g := g1) (ta := t1) (el := el) gd (uns vs1 env) (ys.drop (i + 1)) S3 with ⟨zs, S4, e⟩ | e
            · rw [e] at p'
              exact ⟨zs, S4, e, fun z => by
                have p' : EndR I S3 M6 H6 (RepW I) Q E (cont (accW ++ y :: zs) S4) := p'
                rw [z] at p'
                exact p'⟩
            · rw [e] at p'
              exact p'.elim
          obtain ⟨zs, S4, ec, hnb⟩ := hb
          have hlen := hcl _ _ hnb
          refine ⟨acc, upd_same, ?_, S3, M6, H6, accW ++ [y], acc ++ [vy], upd_upd, nD6, l5.trans l6, s6, RepWs.app ra6 (.cons ry .nil), ?_⟩
          · rw [sizeLine_eq, ← Paired.length ra6]
            simp at hlen
            omega
          · rw [ec] at p' ⊢
            show EndR I S3 M6 H6 (RepW I) Q E (cont (accW ++ [y] ++ zs) S4)
            rw [List.append_assoc]
            exact p'
  · left
    have hi' : i = ys.length := by omega
    subst hi'
    rw [List.drop_length] at p'
    unfold compL at p'
    split at p'
    · rename_i hgd
      have p' : EndR I S' M' Hs (RepW I) Q E (cont (accW ++ []) S') := p'
      rw [List.append_nil] at p'
      exact ⟨wk.stop S' M' Hs _ l' s' exs hgd, hnx S' M' Hs accW acc l' s' nDs ra p'⟩
    · exact p'.elim
theorem compL2_noexc (gd : Sto → Prop) (env : Env) : ∀ (xs : List W) (S : Sto), (∃ ws S', compL2 g ta d1 g1 t1 el vs1 gd env xs S = .ok ws S') ∨ compL2 g ta d1 g1 t1 el vs1 gd env xs S = .bad
  | [], S => by
    unfold compL2
    split
    · exact .inl ⟨_, _, rfl⟩
    · exact .inr rfl
  | x :: xs, S => by
    unfold compL2
    split
    · split
      · exact .inr rfl
      · rename_i e1 _
        generalize ta e1 S = r1
        cases r1 with
        | bad => exact .inr rfl
        | exc c x S1 => exact .inr rfl
        | ok c S1 =>
          show (∃ ws S', (if c = true then _ else _) = R.ok ws S') ∨ (if c = true then _ else _) = R.bad
          split
          · generalize d1 e1 S1 = r2
            cases r2 with
            | bad => exact .inr rfl
            | exc c x S1 => exact .inr rfl
            | ok q S2 =>
              show (∃ ws S', (compL g1 t1 el q.2 (uns vs1 e1) q.1 S2).bind _ = R.ok ws S') ∨ (compL g1 t1 el q.2 (uns vs1 e1) q.1 S2).bind _ = R.bad
              rcases compL_noexc (g := g1) (ta := t1) (el := el) q.2 (uns vs1 e1) q.1 S2 with ⟨ys, S3, e⟩ | e
              · rw [e]
                show (∃ ws S', (compL2 g ta d1 g1 t1 el vs1 gd env xs S3).bind _ = R.ok ws S') ∨ (compL2 g ta d1 g1 t1 el vs1 gd env xs S3).bind _ = R.bad
                rcases compL2_noexc gd env xs S3 with ⟨ws, S', e⟩ | e
                · rw [e]; exact .inl ⟨_, _, rfl⟩
                · rw [e]; exact .inr rfl
              · rw [e]; exact .inr rfl
          · exact compL2_noexc gd env xs S1
    · exact .inr rfl
abbrev aI (t : TI) : TI := fun σ H R => ∃ (D : Addr) (xs : List V), H D = some (.lst xs) ∧ t σ (era H D) fun J1 H' => H' D = none → R J1 (upd H' D (.lst xs))
theorem comp2_rd {own : List Nat} {fin : List W → Sto → R W} (c : CFin I fin) (hv : ∀ i ∈ vs, i ∈ own) {σ : L2.St} {H : Hp} {Q : VK}
    (q : rdE I w (fun e S => (di e S).bind fun p S1 => (compL2 g ta d1 g1 t1 el vs1 p.2 (uns own e) p.1 S1).bind fin) σ H Q) : tLc2 (rdI I w di) (aG (rdG I g vs)) (aT (rdT I w0 ta)) (aI (rdI I w0 d1)) (aG (rdG I g1 vs1)) (aT (rdT I w0 t1)) (aE (rdE I w0 el)) own vs1 σ H Q := by
  obtain ⟨env, S, M, s, sl, p⟩ := q
  refine ⟨env, S, M, s, sl, ?_⟩
  dsimp only at p
  generalize di env S = r at p ⊢
  cases r with
  | bad => exact p
  | exc c x S1 => exact p
  | ok qq S1 =>
    obtain ⟨xs, gd⟩ := qq
    intro J1 H1 M1 l1 s1 wk D nD
    have p : EndR I S1 M1 H1 (RepW I) Q (fun cls dd H' => w cls dd σ H') ((compL2 g ta d1 g1 t1 el vs1 gd (uns own env) xs S1).bind fin) := EndR.up (r := (compL2 g ta d1 g1 t1 el vs1 gd (uns own env) xs S1).bind fin) p l1
    have sl1 := sl.mono l1
    refine ⟨fun i m H' => ∃ (S' : Sto) (M' : List Addr) (Hs : Hp) (accW : List W) (acc : List V), H' = upd Hs D (.lst acc) ∧ Hs D = none ∧ m = xs.length - i ∧ i ≤ xs.length ∧ Le S1 M1 H1 S' M' Hs ∧ Sim I S' M' Hs ∧ RepWs I M' (mask S' M' Hs) accW acc ∧
      EndR I S' M' Hs (RepW I) Q (fun cls dd H' => w cls dd σ H') ((compL2 g ta d1 g1 t1 el vs1 gd (uns own env) (xs.drop i) S').bind fun ys S3 => fin (accW ++ ys) S3),
      ⟨_, S1, M1, H1, [], [], rfl, nD, rfl, Nat.zero_le _, Le.refl, s1, .nil, p⟩, fun i m H' ⟨S', M', Hs, accW, acc, eH, nDs, hm, hi, l', s', ra, p'⟩ => ?_⟩
    subst eH
    have exs : Ex Hs (upd Hs D (.lst acc)) := fun a o e => by rw [upd_ne (ne_of_none e nDs)]; exact e
    rcases Nat.lt_or_ge i xs.length with hlt | hge
    · right
      rw [List.drop_eq_getElem_cons hlt] at p'
      have hbad : compL2 g ta d1 g1 t1 el vs1 gd (uns own env) (xs[i] :: xs.drop (i + 1)) S' ≠ .bad := fun z => by rw [z] at p'; exact p'
      have e0 := compL2.eq_def g ta d1 g1 t1 el vs1 gd (uns own env) (xs[i] :: xs.drop (i + 1)) S'
      dsimp only at e0
      have hgd : gd S' := by
        by_cases z : gd S'
        · exact z
        · rw [if_neg z] at e0
          exact absurd e0 hbad
      rw [if_pos hgd] at e0
      rw [e0] at p'
      clear e0 hbad
      obtain ⟨hgo, hy⟩ := wk.item S' M' Hs _ l' s' exs hgd i _ (List.getElem?_eq_getElem hlt)
      refine ⟨hgo, fun H2 => ∃ (S' : Sto) (M' : List Addr) (Hs : Hp) (accW : List W) (acc : List V), H2 = upd Hs D (.lst acc) ∧ Hs D = none ∧ Le S1 M1 H1 S' M' Hs ∧ Sim I S' M' Hs ∧ RepWs I M' (mask S' M' Hs) accW acc ∧
        EndR I S' M' Hs (RepW I) Q (fun cls dd H' => w cls dd σ H') ((compL2 g ta d1 g1 t1 el vs1 gd (uns own env) (xs.drop (i + 1)) S').bind fun ys S3 => fin (accW ++ ys) S3),
        fun H2 ⟨S', M', Hs, accW, acc, a1, a2, a3, a4, a5, a6⟩ => ⟨_, by omega, S', M', Hs, accW, acc, a1, a2, rfl, hlt, a3, a4, a5, a6⟩, fun v H3 hyl => ?_⟩
      obtain ⟨Hs3, e3, nD3, s3, l3, r3⟩ : ∃ Hs3, H3 = upd Hs3 D (.lst acc) ∧ Hs3 D = none ∧ Sim I S' M' Hs3 ∧ Le S' M' Hs S' M' Hs3 ∧ RepW I M' (mask S' M' Hs3) xs[i] v := by
        rcases hy v H3 hyl with ⟨rfl, r3⟩ | ⟨T, us, ys, nT, rfl, rfl, ex, rs⟩
        · exact ⟨Hs, rfl, nDs, s', Le.refl, r3⟩
        · have TD : T ≠ D := fun z => by rw [z, upd_same] at nT; cases nT
          have nT' : Hs T = none := by rw [upd_ne TD] at nT; exact nT
          obtain ⟨a1, a2⟩ := s'.new (o := .tup us) nT'
          refine ⟨upd Hs T (.tup us), ?_, by rw [upd_ne (Ne.symm TD)]; exact nDs, a1, a2, ?_⟩
          · funext a
            by_cases z1 : a = T
            · rw [z1, upd_same, upd_ne TD, upd_same]
            · rw [upd_ne z1]
              by_cases z2 : a = D
              · rw [z2, upd_same, upd_same]
              · rw [upd_ne z2, upd_ne z2, upd_ne z1]
          · rw [ex]
            exact .tup (.inl (.inl (mask_new s' nT'))) (rs.mono a2.ex)
      subst e3
      refine ⟨D, acc, upd_same, ?_⟩
      rw [era_upd nD3]
      have slb : Slots I M' (mask S' M' Hs3) (uns own env) (wipe σ own) := uns_wipe ((sl1.mono l').mono l3) own
      split at p'
      · exact p'.elim
      rename_i e1 he1
      refine ⟨_, _, S', M', s3, slb, r3, e1, he1, fun σ2 sl2 hw nD4 => ⟨by rw [hw own hv]; exact wipe_wipe _ _, D, acc, upd_same, ?_⟩⟩
      rw [era_upd nD4]
      have p' := EndR.up p' l3
      refine ⟨e1, S', M', s3, sl2, ?_⟩
      generalize ta e1 S' = rt at p' ⊢
      cases rt with
      | bad => exact p'.elim
      | exc c x S2 => exact p'.elim
      | ok cc S2 =>
        intro b H4 M4 l4 s4 eb nD5
        subst eb
        have p' : EndR I S' M' Hs3 (RepW I) Q (fun cls dd H' => w cls dd σ H') ((if cc = true then ((d1 e1 S2).ne.bind fun p S2 => (compL g1 t1 el p.2 (uns vs1 e1) p.1 S2).bind fun ys S3 => (compL2 g ta d1 g1 t1 el vs1 gd (uns own env) (xs.drop (i + 1)) S3).bind fun zs S4 => .ok (ys ++ zs) S4) else compL2 g ta d1 g1 t1 el vs1 gd (uns own env) (xs.drop (i + 1)) S2).bind fun ys S3 => fin (accW ++ ys) S3) := p'
        have p' := EndR.up p' l4
        have l5 := (l'.trans l3).trans l4
        cases cc with
        | false => exact ⟨S2, M4, H4, accW, acc, rfl, nD5, l5, s4, (ra.mono l3).mono l4, p'⟩
        | true =>
          refine ⟨D, acc, upd_same, ?_⟩
          rw [era_upd nD5]
          refine ⟨e1, S2, M4, s4, sl2.mono l4, ?_⟩
          have p' : EndR I S2 M4 H4 (RepW I) Q (fun cls dd H' => w cls dd σ H') (((d1 e1 S2).ne.bind fun p S2 => (compL g1 t1 el p.2 (uns vs1 e1) p.1 S2).bind fun ys S3 => (compL2 g ta d1 g1 t1 el vs1 gd (uns own env) (xs.drop (i + 1)) S3).bind fun zs S4 => .ok (ys ++ zs) S4).bind fun ys S3 => fin (accW ++ ys) S3) := p'
          generalize d1 e1 S2 = re at p' ⊢
          cases re with
          | bad => exact p'.elim
          | exc c x S3 => exact p'.elim
          | ok qi S3 =>
            obtain ⟨ys, gd1⟩ := qi
            intro J2 H6 M6 l6 s6 wk2 nD6
            have p' : EndR I S2 M4 H4 (RepW I) Q (fun cls dd H' => w cls dd σ H') (((compL g1 t1 el gd1 (uns vs1 e1) ys S3).bind fun ys S3 => (compL2 g ta d1 g1 t1 el vs1 gd (uns own env) (xs.drop (i + 1)) S3).bind fun zs S4 => .ok (ys ++ zs) S4).bind fun ys S3 => fin (accW ++ ys) S3) := p'
            have p' := EndR.up p' l6
            rw [bind_assoc'] at p'
            have p' : EndR I S3 M6 H6 (RepW I) Q (fun cls dd H' => w cls dd σ H') ((compL g1 t1 el gd1 (uns vs1 e1) ys S3).bind fun ys S3 => (compL2 g ta d1 g1 t1 el vs1 gd (uns own env) (xs.drop (i + 1)) S3).bind fun zs S4 => fin (accW ++ ys ++ zs) S4) := by
              refine cast (congrArg _ (congrArg _ ?_)) p'
              funext ys S3
              rw [bind_assoc']
              refine congrArg _ ?_
              funext zs S4
              show fin (accW ++ (ys ++ zs)) S4 = _
              rw [List.append_assoc]
            exact inner_walk wk2 s6 ((sl2.mono l4).mono l6) nD6 (((ra.mono l3).mono l4).mono l6) (cont := fun ws S3 => (compL2 g ta d1 g1 t1 el vs1 gd (uns own env) (xs.drop (i + 1)) S3).bind fun zs S4 => fin (ws ++ zs) S4)
              (fun ws S h => by
                rcases compL2_noexc (g := g) (ta := ta) (d1 := d1) (g1 := g1) (t1 := t1) (el := el) (vs1 := vs1) gd (uns own env) (xs.drop (i + 1)) S with ⟨zs, S4, ez⟩ | ez
                · rw [ez] at h
                  have := c.len (ws := ws ++ zs) (S := S4) h
                  rw [List.length_append] at this
                  omega
                · rw [ez] at h
                  exact absurd rfl h)
              (fun S' M' Hs accW' acc' l7 s7 nD7 ra7 p7 => ⟨S', M', Hs, accW', acc', rfl, nD7, (l5.trans l6).trans l7, s7, ra7, p7⟩) p'
    · left
      have hi' : i = xs.length := by omega
      subst hi'
      rw [List.drop_length] at p'
      unfold compL2 at p'
      split at p'
      · rename_i hgd
        have p' : EndR I S' M' Hs (RepW I) Q (fun cls dd H' => w cls dd σ H') (fin (accW ++ []) S') := p'
        rw [List.append_nil] at p'
        exact ⟨wk.stop S' M' Hs _ l' s' exs hgd, c.end_ s' ra nDs p'⟩
      · exact p'.elim
theorem sx_comp2 (t : Cok J X w F Fi k) (hi : PI X tg iter (rdI I w di)) (hv : ∀ i ∈ vs, i ∈ own.map (·.2)) (hv1 : ∀ i ∈ vs1, i ∈ own.map (·.2)) (ok : BlkOk X.N X.env.scope scope own)
    (hg : ∀ (s : Shared) (H : Hp) (C : Addr) (cl : List (Str × Addr)) (fp : List Addr), PG (X.blk s H scope (compEnvC scope cl C X.env) fp) tg (rdG I g vs)) (ht : ∀ (s : Shared) (H : Hp) (C : Addr) (cl : List (Str × Addr)) (fp : List Addr), PTs (X.blk s H scope (compEnvC scope cl C X.env) fp) ifs (rdT I w0 ta))
    (hi1 : ∀ (s : Shared) (H : Hp) (C : Addr) (cl : List (Str × Addr)) (fp : List Addr), PI (X.blk s H scope (compEnvC scope cl C X.env) fp) tg1 iter1 (rdI I w0 d1))
    (hg1 : ∀ (s : Shared) (H : Hp) (C : Addr) (cl : List (Str × Addr)) (fp : List Addr), PG (X.blk s H scope (compEnvC scope cl C X.env) fp) tg1 (rdG I g1 vs1)) (ht1 : ∀ (s : Shared) (H : Hp) (C : Addr) (cl : List (Str × Addr)) (fp : List Addr), PTs (X.blk s H scope (compEnvC scope cl C X.env) fp) ifs1 (rdT I w0 t1))
    (he : ∀ (s : Shared) (H : Hp) (C : Addr) (cl : List (Str × Addr)) (fp : List Addr), PE (X.blk s H scope (compEnvC scope cl C X.env) fp) elt (rdE I w0 el)) (hs : ∀ x, foldedSetIterable iter X.env x = pure x := by intro _; rfl) (hs1 : ∀ env x, foldedSetIterable iter1 env x = pure x := by intro _ _; rfl) :
    PE X (.ListComp elt [⟨tg, iter, ifs, 0⟩, ⟨tg1, iter1, ifs1, 0⟩] scope pos) (rdE I w (dComp2 (own.map (·.2)) g di ta d1 g1 t1 el vs1)) :=
  PE_imp (pe_lc2 t.calm t.nd hi ok hv1 (fun s H C cl fp => PG_aside (hg s H C cl fp)) (fun s H C cl fp => PTs_aside (ht s H C cl fp)) (fun s H C cl fp => PI_aside (hi1 s H C cl fp)) (fun s H C cl fp => PG_aside (hg1 s H C cl fp)) (fun s H C cl fp => PTs_aside (ht1 s H C cl fp)) (fun s H C cl fp => PE_aside (he s H C cl fp)) hs hs1) fun σ H Q q => comp2_rd .plain hv q
end
end Py
/-! ### an instance called -/
namespace Py
open PySem PySem.Spec PyProof.Rows L2
def dCallO (F : FnTab) (c f n : Nat) (o : DE) (r : DA) : DE := fun e S => (o e S).bind fun x S1 => if isC c x S1 = true then ((r e S1).bind fun ws S2 => if isC c x S2 = true ∧ ws.length + 1 = n then F f (x :: ws) S2 else .bad) else .bad
section
variable {J : Jn} {X : Cx} {w : WX} {F Fi : FnTab} {k : Nat} {fe e : Expr} {es : List Expr} {d_o : DE} {dr : DA} {pos : Pos}
def tCallI (X : Cx) (C : Addr) (sp : Sp) (E : L2.St → XK) (tf : TE) (t : TA) : TE := fun σ H Q => tf σ H fun y H1 => ∃ a, y = V.ref a ∧ t σ H1 fun vs H2 => (∃ dx fs, H2 a = some (.ins C dx fs)) ∧ sp (V.ref a :: vs) H2 Q (E σ)
theorem pe_callI {CX : CXT} {n : Nat} {C fa : Addr} {fd : FuncData} {ps : List Str} {sp : Sp} {E : L2.St → XK} {tf : TE} {t : TA} (hf : PE X fe tf) {m : Str} (hm : Meth X.K C m fa) (em : m = ("__call__" : Str)) (hfi : PySem.W.fnIn X.K fa = true)
    (FO : FnOk X.prog X.w X.K X.mg X.base CX n fa fd ps sp) (hb : Binds X.K fd ps []) (hr : Room n X.A) (hx : ∀ σ, PassesAt CX X σ (E σ)) (ha : PA X (e :: es) t)
    (ht : eval (.Call fe (e :: es) [] pos) X.env = (do callWith pos (← eval fe X.env) [] (backTo pos (starEach (e :: es) X.env)) (backToKw pos (keywordEach [] X.env))) := by rfl)
    (he : starEach (e :: es) X.env = (false, eval e X.env) :: starEach es X.env := by rfl) (hpl : (backTo pos (starEach es X.env)).any (·.1) = false := by rfl) : PE X (.Call fe (e :: es) [] pos) (tCallI X C sp E tf t) := by
  subst em
  refine ⟨fun pins s σ H Q In h => ?_⟩
  refine Call_ (thn (hf.run pins s σ H _ In h) fun u s1 ⟨y, H1, I1, ry, a, ey, q⟩ => ?_) ht
  subst ey
  obtain rfl : u = Value.ref a := ry
  refine StX.callO_with (thn (ha.run pos pins s1 σ H1 _ I1 q) fun us s2 ⟨vs, H2, I2, r, ⟨dx, fs, hi⟩, q2⟩ => ?_) he hpl
  obtain ⟨mA, O, _⟩ := ins_get I2.hok hi
  obtain ⟨od, J1, _⟩ := O.look
  refine ⟨⟨C, _, _, J1, rfl⟩, wpAny_call (PySem.W.kco_code I2.kIn J1 rfl hm.at_ hm.fn hfi ?_)⟩
  have r2 : Vals (V.ref a :: vs ++ []) (Value.ref a :: us ++ []) := by rw [List.append_nil, List.append_nil]; exact .cons rfl r
  have q3 : sp (V.ref a :: vs ++ []) H2 Q (E σ) := by rw [List.append_nil]; exact q2
  have hl : (Value.ref a :: us ++ []).length = ps.length := by rw [← r2.length]; exact FO.len _ _ _ _ q3
  refine codeAny_mono (FO.run X.A X.stack s2 H2 ⟨Value.ref a :: us, []⟩ _ _ Q (E σ) hr I2.env0 (hb s2 _ I2.kIn hl) r2 q3) fun r s' hq => ?_
  cases r with
  | error e => exact hx σ pins H2 s2 e s' I2 hq
  | ok fl =>
    cases fl with
    | ret u => exact I2.after hq
    | next => exact False.elim hq
    | brk => exact False.elim hq
    | cont => exact False.elim hq
theorem sx_callO {c f n : Nat} {m : Str} (t : Cok J X w F Fi k) (h : J.sg.mt f = some (c, m, n)) (em : m = ("__call__" : Str)) (ho : PE X fe (rdE (J.inf X.K) w d_o)) (ha : PA X (e :: es) (rdA (J.inf X.K) w dr))
    (ht : eval (.Call fe (e :: es) [] pos) X.env = (do callWith pos (← eval fe X.env) [] (backTo pos (starEach (e :: es) X.env)) (backToKw pos (keywordEach [] X.env))) := by rfl)
    (he : starEach (e :: es) X.env = (false, eval e X.env) :: starEach es X.env := by rfl) (hpl : (backTo pos (starEach es X.env)).any (·.1) = false := by rfl) :
    PE X (.Call fe (e :: es) [] pos) (rdE (J.inf X.K) w (dCallO F c f n d_o dr)) := by
  obtain ⟨C, fa, fd, ps, h1, h2, h3, h4⟩ := t.meth f c m n h
  obtain ⟨C', fa', g1, g2, g3⟩ := t.fi f c m n h
  have eC := h1.symm.trans g1
  cases eC
  have ef := h2.at_.symm.trans g2.at_
  cases ef
  refine PE_imp (pe_callI (E := WE w) ho h2 em g3 h3 h4 t.room (fun σ => passAt t.tk σ) ha ht he hpl) fun σ H Q ⟨e, S, M, s, sl, p⟩ => ?_
  refine ⟨e, S, M, s, sl, (EndR.bind (rel1 := RepW (J.inf X.K)) p).imp fun v H1 ⟨x, S1, M1, l1, s1, r1, p1⟩ => ?_⟩
  split at p1
  · rename_i hx
    obtain ⟨a, C2, dx, vs, rfl, g, hb⟩ := recv_at s1 r1 hx
    refine ⟨a, rfl, e, S1, M1, s1, sl.mono l1, (EndR.bind (rel1 := RepWs (J.inf X.K)) p1).imp fun us H2 ⟨ws, S2, M2, l2, s2, r2, p2⟩ => ?_⟩
    split at p2
    · rename_i hh
      have r1' := r1.mono l2
      obtain ⟨b, C2, dx, vs, e1, g2, hb⟩ := recv_at s2 r1' hh.1
      cases e1
      have eC := h1.symm.trans g2
      cases eC
      exact ⟨⟨dx, _, hb⟩, by rw [← hh.2, Paired.length r2]; rfl, _ :: ws, S2, M2, s2, .cons r1' r2, p2⟩
    · exact p2.elim
  · exact p1.elim
end
end Py
/-! bool(x) where the instances of a class have their own __bool__ -/
namespace Py
open PySem PySem.Spec PyProof.Rows L2
theorem bool_new_in {prog : Program} {w : World} (x : Value) : MeetsIn prog w (Builtin.«bool.__new__» ⟨[.type "bool", x], []⟩) (fun A R s => wpAny (model prog w) A.in1 (truthy x) (fun b s' => R (.ok (.ret (.bool b))) s') (fun e s' => R (.error e) s') s) := by
  intro A R s h
  have f1 := PySem.F.conv_sub_bool
  unfold Builtin.«bool.__new__»
  refine wpAny_bind ?_
  repeat (any_goals (first | assumption | wp_step))
  exact wpAny_mono h (fun b s' hb => wpAny_pure hb) fun _ _ z => z
theorem call_bool_in {prog : Program} {w : World} {A : Around} {E : Value → Shared → Prop} {s : Shared} {x : Value} {Q : Value → Shared → Prop}
    (h : wpAny (model prog w) A.in1.in1 (truthy x) (fun b s' => Q (.bool b) s') E s) : wpAny (model prog w) A (call (.type "bool") [x]) Q E s :=
  callType_newIn PySem.F.called_bool PySem.F.newNe_bool (PySem.F.typeCall_bool_1 x) (PySem.F.newCall_bool_1 x) (fun obj => PySem.F.args_object_init_2 obj x) PySem.F.entry_bool_new (bool_new_in x) (wpAny_mono h (fun _ _ z => ⟨rfl, z⟩) fun _ _ z => z)
section
variable {J : Jn} {X : Cx} {w : WX} {F Fi : FnTab} {k : Nat}
def gBoolO (Fi : FnTab) (c f : Nat) : List W → Sto → R W
  | [.d (.obj c1 xs)], S => if c1 = c then (match Fi f [.d (.obj c1 xs)] S with
    | .ok (.d (.bl b)) S' => .ok (.d (.bl b)) S'
    | _ => .bad) else .bad
  | ws, S => gBool ws S
theorem c_boolO (t : Cok J X w F Fi k) {f c : Nat} (h : J.sg.mt f = some (c, ("__bool__" : Str), 1)) : CallR X (.type "bool") (rdCall (J.inf X.K) (gBoolO Fi c f)) := by
  intro pins s σ H vs us Q In r hh
  obtain ⟨ws, S, M, sim, rw', p⟩ := hh
  unfold gBoolO at p
  split at p
  · obtain ⟨v, rfl, rv⟩ := rw'.one
    obtain ⟨u, rfl, ru⟩ := vals1 r
    split at p
    · rename_i hc
      subst hc
      obtain ⟨C, fa, fd, ps, h1, h2, h3, h4⟩ := t.low f _ _ 1 h
      have rx0 := rv
      cases rv with
      | @obj a _ _ _ _ _ g1 e1 l1 q1 =>
      have eC := h1.symm.trans g1
      cases eC
      cases ru
      obtain ⟨od, J1⟩ := obj_look (I := J.inf X.K) In (mask_ex _ _ e1)
      obtain ⟨mm, hF⟩ := In.fr
      have hr : Room k X.A.in1.in1 := ⟨t.room.hd, by have := t.room.dp; show X.A.depth + 3 * k + 5 < _; omega, by have := t.room.un; show X.A.units + 1 + 1 + 16 * k + 200 < _; omega⟩
      refine call_bool_in (PySem.W.truthy_K hF In.ok.mod.kin J1 h2.at_ h2.fn ?_)
      have r2 : Vals [V.ref a] [Value.ref a] := .cons rel_ref .nil
      have q3 : spOf (J.inf X.K) Fi f 1 [V.ref a] H (fun v H' => ∃ b, v = .bl b ∧ Q (.bl b) H') E0 := ⟨rfl, _, S, M, sim, .cons rx0 .nil, by
        split at p
        · rename_i b S' he
          rw [he]
          intro v H' M' l' s' rv'
          cases rv'
          exact ⟨_, rfl, p (.bl b) H' M' l' s' (.bl _)⟩
        · exact p.elim⟩
      have hl : [Value.ref a].length = ps.length := by rw [← r2.length]; exact h3.len _ _ _ _ q3
      have hb := h4 s [Value.ref a] In.kIn (by rw [List.append_nil]; exact hl)
      rw [List.append_nil] at hb
      refine wpAny_call (codeAny_mono (h3.run X.A.in1.in1 X.stack s H ⟨[Value.ref a], []⟩ _ _ _ E0 hr In.env0.in1.in1 hb r2 q3) fun r s' hq => ?_)
      cases r with
      | error e => exact passL _ σ H s e s' In hq
      | ok fl =>
        cases fl with
        | ret u =>
          obtain ⟨v, H', I', rv', b, rfl, q⟩ := In.after hq
          cases rv'
          exact ⟨.bl b, H', I', rfl, q⟩
        | next => exact False.elim hq
        | brk => exact False.elim hq
        | cont => exact False.elim hq
    · exact p.elim
  · exact c_bool (I := J.inf X.K) pins s σ H vs us Q In r ⟨_, S, M, sim, rw', p⟩
end
end Py

/-! Py14: what an evaluation ends in. -/
namespace Py
open PySem PySem.Spec PyProof.Rows L2
/-- keeps simp out of what comes later -/
structure Tg {α : Type} (a : α) : Type where
def R.sat {α : Type} (r : R α) (Q : α → Sto → Prop) (_ : Tg Q := ⟨⟩) : Prop := match r with
  | .ok a S => Q a S
  | _ => False
def RS.sat (r : RS) (N : Env → Sto → Prop) (T : W → Sto → Prop) (B C : Env → Sto → Prop) (_ : Tg N := ⟨⟩) (_ : Tg T := ⟨⟩) (_ : Tg B := ⟨⟩) (_ : Tg C := ⟨⟩) : Prop := match r with
  | .nx e S => N e S
  | .rt w S => T w S
  | .bk e S => B e S
  | .ct e S => C e S
  | _ => False
def NoB : Env → Sto → Prop := fun _ _ => False
def ofO' {α : Type} (o : Option α) (Q : α → Prop) (_ : Tg Q := ⟨⟩) : Prop := match o with
  | some a => Q a
  | none => False
/-- a branch that is not walked into yet -/
def Br (c : Prop) (A B : Unit → Prop) (_ : Tg A := ⟨⟩) (_ : Tg B := ⟨⟩) : Prop := (c → A ()) ∧ (¬ c → B ())
section
variable {α β : Type} {Q Q' : α → Sto → Prop} {P : β → Sto → Prop} {r : R α} {f : α → Sto → R β} {N N' : Env → Sto → Prop} {T T' : W → Sto → Prop} {B C : Env → Sto → Prop} {e : Env} {S : Sto} {a b : DS}
theorem br_of {c : Prop} {A B : Unit → Prop} (h1 : c → A ()) (h2 : ¬ c → B ()) : Br c A B := ⟨h1, h2⟩
theorem br_t {A B : Unit → Prop} : Br True A B = A () := by simp [Br]
theorem br_f {A B : Unit → Prop} : Br False A B = B () := by simp [Br]
theorem br_cong {c : Prop} {A A' B B' : Unit → Prop} (h1 : A () = A' ()) (h2 : B () = B' ()) : Br c A B = Br c A' B' := by
  have h1 : A = A' := by funext x; exact h1
  have h2 : B = B' := by funext x; exact h2
  subst h1 h2
  rfl
theorem sat_ok {x : α} : (R.ok x S).sat Q = Q x S := rfl
theorem sat_bad : (R.bad : R α).sat Q = False := rfl
theorem sat_bind : (r.bind f).sat P = r.sat fun x S1 => (f x S1).sat P := by cases r <;> rfl
theorem sat_ne : r.ne.sat Q = r.sat Q := by cases r <;> rfl
theorem sat_mono (h : r.sat Q) (i : ∀ x S, Q x S → Q' x S) : r.sat Q' := by
  cases r with
  | ok x S => exact i _ _ h
  | exc c x S => exact h
  | bad => exact h
theorem sat_cong {r : R α} (h : ∀ x S, Q x S = Q' x S) : r.sat Q = r.sat Q' := by
  cases r with
  | ok x S => exact h _ _
  | exc c x S => rfl
  | bad => rfl
theorem sat_get (h : r.sat Q) : ∃ x S, r = .ok x S ∧ Q x S := by
  cases r with
  | ok x S => exact ⟨x, S, rfl, h⟩
  | exc c x S => exact h.elim
  | bad => exact h.elim
theorem sat_eq {x : α} {S' : Sto} (h : r = .ok x S') : r.sat Q = Q x S' := by rw [h]; rfl
theorem sat_ite {c : Prop} [Decidable c] {u v : R α} : (if c then u else v).sat Q = Br c (fun _ => u.sat Q) (fun _ => v.sat Q) := by
  by_cases h : c
  · rw [if_pos h]; simp [Br, h]
  · rw [if_neg h]; simp [Br, h]
theorem rs_nx : (RS.nx e S).sat N T B C = N e S := rfl
theorem rs_rt {w : W} : (RS.rt w S).sat N T B C = T w S := rfl
theorem rs_bk : (RS.bk e S).sat N T B C = B e S := rfl
theorem rs_ct : (RS.ct e S).sat N T B C = C e S := rfl
theorem rs_bad : (RS.bad).sat N T B C = False := rfl
theorem rs_bind {k : α → Sto → RS} : (bindS r e k).sat N T B C = r.sat fun x S1 => (k x S1).sat N T B C := by cases r <;> rfl
theorem rs_ite {c : Prop} [Decidable c] {u v : RS} : (if c then u else v).sat N T B C = Br c (fun _ => u.sat N T B C) (fun _ => v.sat N T B C) := by
  by_cases h : c
  · rw [if_pos h]; simp [Br, h]
  · rw [if_neg h]; simp [Br, h]
theorem rs_seq : (sSeq a b e S).sat N T B C = (a e S).sat (fun e1 S1 => (b e1 S1).sat N T B C) T B C := by
  unfold sSeq
  cases a e S <;> rfl
theorem rs_mono {r : RS} {B' C' : Env → Sto → Prop} (h : r.sat N T B C) (i : ∀ e S, N e S → N' e S) (j : ∀ w S, T w S → T' w S) (k : ∀ e S, B e S → B' e S) (l : ∀ e S, C e S → C' e S) : r.sat N' T' B' C' := by
  cases r with
  | nx e S => exact i _ _ h
  | rt w S => exact j _ _ h
  | bk e S => exact k _ _ h
  | ct e S => exact l _ _ h
  | exc c x e S => exact h
  | bad => exact h
/-- a statement ahead of others: what holds behind it, said -/
theorem rs_cut (N1 : Env → Sto → Prop) (h : (a e S).sat N1 T B C) (k : ∀ e1 S1, N1 e1 S1 → (b e1 S1).sat N T B C) : (sSeq a b e S).sat N T B C := by
  rw [rs_seq]
  exact rs_mono h k (fun _ _ h => h) (fun _ _ h => h) (fun _ _ h => h)
theorem rs_pass : (sPass e S).sat N T B C = N e S := rfl
/-- what a def gives back, the store cut -/
def cutR (n : Nat) (Q : W → Sto → Prop) : W → Sto → Prop := fun w S => match w with
  | .d x => Q (.d x) (S.take n)
  | .c i => if i < n then Q (.c i) (S.take n) else Q (.c i) S
  | .e c x => Q (.e c x) (S.take n)
theorem cutR_d {n : Nat} {Q : W → Sto → Prop} {x : D} : cutR n Q (.d x) S = Q (.d x) (S.take n) := rfl
theorem cutR_c {n i : Nat} {Q : W → Sto → Prop} : cutR n Q (.c i) S = if i < n then Q (.c i) (S.take n) else Q (.c i) S := rfl
theorem run_sat {M ar : Nat} {body : DS} {ws : List W} {Q : W → Sto → Prop} (hl : ws.length = ar) (h : (body (ws.map some ++ List.replicate (M - ws.length) none) S).sat (fun _ S' => cutR S.length Q (.d .non) S') (cutR S.length Q) NoB NoB) : (runDef M ar body ws S).sat Q := by
  unfold runDef
  rw [if_pos hl]
  generalize body (ws.map some ++ List.replicate (M - ws.length) none) S = r at h
  have go : ∀ w S', cutR S.length Q w S' → (fin S.length (.ok w S')).sat Q := fun w S' h => by
    cases w with
    | d x => exact h
    | e c x => exact h
    | c i =>
      show (if i < S.length then R.ok (W.c i) (S'.take S.length) else R.ok (W.c i) S').sat Q
      have h : if i < S.length then Q (.c i) (S'.take S.length) else Q (.c i) S' := h
      split
      · rename_i hi
        rw [if_pos hi] at h
        exact h
      · rename_i hi
        rw [if_neg hi] at h
        exact h
  cases r with
  | nx e S' => exact go _ _ h
  | rt w S' => exact go _ _ h
  | bk e S' => exact h.elim
  | ct e S' => exact h.elim
  | exc c x e S' => exact h.elim
  | bad => exact h.elim
/-! loops -/
theorem for_sat {ks : List Nat} {g : GT} {gd : Sto → Prop} {xs : List W} (Inv : Nat → Env → Sto → Prop) (h0 : Inv 0 e S)
    (hs : ∀ i x e S, xs[i]? = some x → Inv i e S → gd S ∧ ∃ e1, g x (uns ks e) = some e1 ∧ (b e1 S).sat (Inv (i + 1)) T (fun e2 S2 => N (uns ks e2) S2) (Inv (i + 1)))
    (hd : ∀ e S, Inv xs.length e S → gd S ∧ N (uns ks e) S) : (forL ks g b gd xs e S).sat N T B C := by
  induction xs generalizing Inv e S with
  | nil =>
    unfold forL
    obtain ⟨h1, h2⟩ := hd _ _ h0
    rw [if_pos h1]
    exact h2
  | cons x xs ih =>
    unfold forL
    obtain ⟨h1, e1, h2, h3⟩ := hs 0 x e S rfl h0
    rw [if_pos h1, h2]
    dsimp only
    have next : ∀ e2 S2, Inv 1 e2 S2 → (forL ks g b gd xs e2 S2).sat N T B C := fun e2 S2 h => ih (fun i => Inv (i + 1)) h (fun i y e S hy hi => hs (i + 1) y e S hy hi) hd
    generalize b e1 S = r at h3
    cases r with
    | nx e2 S2 => exact next _ _ h3
    | ct e2 S2 => exact next _ _ h3
    | bk e2 S2 => exact h3
    | rt w S2 => exact h3
    | exc c y e2 S2 => exact h3.elim
    | bad => exact h3.elim
theorem while_sat {ks : List Nat} {t : DT} {n : Nat} (Inv : Nat → Env → Sto → Prop) (m : Nat) (hm : m < n) (h0 : Inv m e S)
    (hs : ∀ m e S, Inv m e S → (t (uns ks e) S).sat fun c S1 => if c = true then (b (uns ks e) S1).sat (fun e2 S2 => ∃ m', m' < m ∧ Inv m' e2 S2) T (fun e2 S2 => N (uns ks e2) S2) (fun e2 S2 => ∃ m', m' < m ∧ Inv m' e2 S2) else N (uns ks e) S1) : (whileL ks t b n e S).sat N T B C := by
  induction n generalizing m e S with
  | zero => cases hm
  | succ n ih =>
    unfold whileL
    have h := hs m e S h0
    rw [rs_bind]
    refine sat_mono h fun c S1 h => ?_
    split at h
    · rename_i hc
      rw [if_pos hc]
      have next : ∀ e2 S2, (∃ m', m' < m ∧ Inv m' e2 S2) → (whileL ks t b n e2 S2).sat N T B C := fun e2 S2 ⟨m', h1, h2⟩ => ih m' (by omega) h2
      generalize b (uns ks e) S1 = r at h
      cases r with
      | nx e2 S2 => exact next _ _ h
      | ct e2 S2 => exact next _ _ h
      | bk e2 S2 => exact h
      | rt w S2 => exact h
      | exc c y e2 S2 => exact h.elim
      | bad => exact h.elim
    · rename_i hc
      rw [if_neg hc]
      exact h
theorem sWhile_eq {n : Nat} {ks : List Nat} {t : DT} : sWhile n ks t b e S = whileL ks t b n e S := rfl
theorem rs_for {ks : List Nat} {g : GT} {i : DI} : (sFor ks g i b e S).sat N T B C = (i e S).sat fun p S1 => (forL ks g b p.2 p.1 e S1).sat N T B C := by
  unfold sFor
  rw [rs_bind]
/-- a comprehension without a test -/
theorem comp_sat {g : GT} {el : DE} {gd : Sto → Prop} {xs : List W} {Q : List W → Sto → Prop} (Inv : Nat → List W → Sto → Prop) (h0 : Inv 0 [] S)
    (hs : ∀ i x ys S, xs[i]? = some x → Inv i ys S → gd S ∧ ∃ e1, g x e = some e1 ∧ (el e1 S).sat fun y S2 => Inv (i + 1) (ys ++ [y]) S2)
    (hd : ∀ ys S, Inv xs.length ys S → gd S ∧ Q ys S) : (compL g tYesD el gd e xs S).sat Q := by
  suffices h : ∀ acc, Inv 0 acc S → (compL g tYesD el gd e xs S).sat fun ys S2 => Q (acc ++ ys) S2 by simpa using h [] h0
  clear h0
  intro acc h0
  induction xs generalizing Inv acc S with
  | nil =>
    unfold compL
    obtain ⟨h1, h2⟩ := hd _ _ h0
    rw [if_pos h1, sat_ok, List.append_nil]
    exact h2
  | cons x xs ih =>
    unfold compL
    obtain ⟨h1, e1, h2, h3⟩ := hs 0 x acc S rfl h0
    rw [if_pos h1, h2]
    dsimp only [tYesD]
    rw [sat_bind, sat_ne, sat_ok, if_pos rfl, sat_bind, sat_ne]
    refine sat_mono h3 fun y S2 h3 => ?_
    rw [sat_bind]
    refine sat_mono (ih (fun i => Inv (i + 1)) (fun i z ys S hz hi => hs (i + 1) z ys S hz hi) hd (acc ++ [y]) h3) fun ys S3 h => ?_
    rw [sat_ok]
    simpa using h
/-- a comprehension with a test -/
theorem compT_sat {g : GT} {t : DT} {el : DE} {gd : Sto → Prop} {xs : List W} {Q : List W → Sto → Prop} (Inv : Nat → List W → Sto → Prop) (h0 : Inv 0 [] S)
    (hs : ∀ i x ys S, xs[i]? = some x → Inv i ys S → gd S ∧ ∃ e1, g x e = some e1 ∧ (t e1 S).sat fun c S1 => if c = true then (el e1 S1).sat fun y S2 => Inv (i + 1) (ys ++ [y]) S2 else Inv (i + 1) ys S1)
    (hd : ∀ ys S, Inv xs.length ys S → gd S ∧ Q ys S) : (compL g t el gd e xs S).sat Q := by
  suffices h : ∀ acc, Inv 0 acc S → (compL g t el gd e xs S).sat fun ys S2 => Q (acc ++ ys) S2 by simpa using h [] h0
  clear h0
  intro acc h0
  induction xs generalizing Inv acc S with
  | nil =>
    unfold compL
    obtain ⟨h1, h2⟩ := hd _ _ h0
    rw [if_pos h1, sat_ok, List.append_nil]
    exact h2
  | cons x xs ih =>
    unfold compL
    obtain ⟨h1, e1, h2, h3⟩ := hs 0 x acc S rfl h0
    rw [if_pos h1, h2]
    dsimp only
    rw [sat_bind, sat_ne]
    refine sat_mono h3 fun c S1 h3 => ?_
    cases c with
    | false =>
      rw [if_neg (by decide)] at h3 ⊢
      exact ih (fun i => Inv (i + 1)) (fun i z ys S hz hi => hs (i + 1) z ys S hz hi) hd acc h3
    | true =>
      rw [if_pos rfl] at h3 ⊢
      rw [sat_bind, sat_ne]
      refine sat_mono h3 fun y S2 h3 => ?_
      rw [sat_bind]
      refine sat_mono (ih (fun i => Inv (i + 1)) (fun i z ys S hz hi => hs (i + 1) z ys S hz hi) hd (acc ++ [y]) h3) fun ys S3 h => ?_
      rw [sat_ok]
      simpa using h
/-- a comprehension of two clauses -/
theorem comp2_sat {g g1 : GT} {t t1 : DT} {d1 : DI} {el : DE} {k1 : List Nat} {gd : Sto → Prop} {xs : List W} {Q : List W → Sto → Prop} (Inv : Nat → List W → Sto → Prop) (h0 : Inv 0 [] S)
    (hs : ∀ i x ys S, xs[i]? = some x → Inv i ys S → gd S ∧ ∃ e1, g x e = some e1 ∧ (t e1 S).sat fun c S1 => if c = true then (d1 e1 S1).sat fun p S2 => (compL g1 t1 el p.2 (uns k1 e1) p.1 S2).sat fun zs S3 => Inv (i + 1) (ys ++ zs) S3 else Inv (i + 1) ys S1)
    (hd : ∀ ys S, Inv xs.length ys S → gd S ∧ Q ys S) : (compL2 g t d1 g1 t1 el k1 gd e xs S).sat Q := by
  suffices h : ∀ acc, Inv 0 acc S → (compL2 g t d1 g1 t1 el k1 gd e xs S).sat fun ys S2 => Q (acc ++ ys) S2 by simpa using h [] h0
  clear h0
  intro acc h0
  induction xs generalizing Inv acc S with
  | nil =>
    unfold compL2
    obtain ⟨h1, h2⟩ := hd _ _ h0
    rw [if_pos h1, sat_ok, List.append_nil]
    exact h2
  | cons x xs ih =>
    unfold compL2
    obtain ⟨h1, e1, h2, h3⟩ := hs 0 x acc S rfl h0
    rw [if_pos h1, h2]
    dsimp only
    rw [sat_bind, sat_ne]
    refine sat_mono h3 fun c S1 h3 => ?_
    cases c with
    | false =>
      rw [if_neg (by decide)] at h3 ⊢
      exact ih (fun i => Inv (i + 1)) (fun i z ys S hz hi => hs (i + 1) z ys S hz hi) hd acc h3
    | true =>
      rw [if_pos rfl] at h3 ⊢
      rw [sat_bind, sat_ne]
      refine sat_mono h3 fun y S2 h3 => ?_
      rw [sat_bind]
      refine sat_mono h3 fun zs S3 h3 => ?_
      rw [sat_bind]
      refine sat_mono (ih (fun i => Inv (i + 1)) (fun i z ys S hz hi => hs (i + 1) z ys S hz hi) hd (acc ++ zs) h3) fun ys S3 h => ?_
      rw [sat_ok]
      simpa [List.append_assoc] using h
theorem comp_map {g : GT} {el : DE} {gd : Sto → Prop} {xs : List W} {Q : List W → Sto → Prop} (f : W → W) (h : ∀ x ∈ xs, ∃ e1, g x e = some e1 ∧ (el e1 S).sat fun y S2 => y = f x ∧ S2 = S) (hg : gd S) (hq : Q (xs.map f) S) : (compL g tYesD el gd e xs S).sat Q := by
  refine comp_sat (fun i ys S1 => S1 = S ∧ ys = (xs.take i).map f) ⟨rfl, rfl⟩ ?_ ?_
  · rintro i x ys S1 hx ⟨rfl, rfl⟩
    obtain ⟨e1, h1, h2⟩ := h x (List.mem_of_getElem? hx)
    refine ⟨hg, e1, h1, sat_mono h2 ?_⟩
    rintro y S2 ⟨rfl, rfl⟩
    refine ⟨rfl, ?_⟩
    rw [List.take_succ, hx, List.map_append]
    rfl
  · rintro ys S1 ⟨rfl, rfl⟩
    rw [List.take_length]
    exact ⟨hg, hq⟩
theorem comp_each {α : Type} {g : GT} {el : DE} {gd : Sto → Prop} {xs : List W} {Q : List W → Sto → Prop} {l : List α} {mk : α → W} {f : α → D} (hxs : xs = l.map mk) (h : ∀ a ∈ l, ∃ e1, g (mk a) e = some e1 ∧ (el e1 S).sat fun y S2 => y = .d (f a) ∧ S2 = S) (hg : gd S) (hq : Q ((l.map f).map W.d) S) : (compL g tYesD el gd e xs S).sat Q := by
  subst hxs
  refine comp_sat (fun i ys S1 => S1 = S ∧ ys = ((l.take i).map f).map W.d) ⟨rfl, rfl⟩ ?_ ?_
  · rintro i x ys S1 hx ⟨rfl, rfl⟩
    rw [List.getElem?_map] at hx
    cases q : l[i]? with
    | none => rw [q] at hx; cases hx
    | some a =>
      rw [q] at hx
      have hx : mk a = x := by simpa using hx
      subst hx
      obtain ⟨e1, h1, h2⟩ := h a (List.mem_of_getElem? q)
      refine ⟨hg, e1, h1, sat_mono h2 ?_⟩
      rintro y S2 ⟨rfl, rfl⟩
      refine ⟨rfl, ?_⟩
      rw [List.take_succ, q, List.map_append, List.map_append]
      rfl
  · rintro ys S1 ⟨rfl, rfl⟩
    rw [List.length_map, List.take_length]
    exact ⟨hg, hq⟩
theorem comp_nil {g : GT} {el : DE} {gd : Sto → Prop} {Q : List W → Sto → Prop} : (compL g tYesD el gd e [] S).sat Q = (gd S ∧ Q [] S) := by
  unfold compL
  by_cases h : gd S
  · rw [if_pos h, sat_ok]
    simp [h]
  · rw [if_neg h, sat_bad]
    simp [h]
theorem comp_cons {g : GT} {el : DE} {gd : Sto → Prop} {x : W} {xs : List W} {Q : List W → Sto → Prop} : (compL g tYesD el gd e (x :: xs) S).sat Q = Br (gd S) (fun _ => ofO' (g x e) fun e1 => (el e1 S).sat fun y S2 => (compL g tYesD el gd e xs S2).sat fun ys S3 => Q (y :: ys) S3) (fun _ => False) := by
  rw [compL]
  by_cases hg : gd S
  · rw [if_pos hg]
    simp only [Br, hg, not_true_eq_false, false_implies, and_true, true_implies]
    cases h : g x e with
    | none =>
      rfl
    | some e1 =>
      show (((tYesD e1 S).ne.bind fun c S1 => if c = true then ((el e1 S1).ne.bind fun y S2 => (compL g tYesD el gd e xs S2).bind fun ys S3 => .ok (y :: ys) S3) else compL g tYesD el gd e xs S1) : R (List W)).sat Q = _
      rw [sat_bind, sat_ne]
      show ((if true = true then _ else _ : R (List W))).sat Q = _
      rw [if_pos rfl, sat_bind, sat_ne]
      refine sat_cong fun y S2 => ?_
      rw [sat_bind]
      rfl
  · rw [if_neg hg, sat_bad]
    simp [Br, hg]
theorem dComp_sat {own : List Nat} {g : GT} {i : DI} {t : DT} {el : DE} {Q : W → Sto → Prop} : (dComp own g i t el e S).sat Q = (i e S).sat fun p S1 => (compL g t el p.2 (uns own e) p.1 S1).sat fun ws S2 => Br (ws.length ≤ 16777216) (fun _ => ofO' (plainL ws) fun xs => Q (.d (.lst xs)) S2) (fun _ => False) := by
  unfold dComp
  rw [sat_bind]
  refine sat_cong fun p S1 => ?_
  rw [sat_bind]
  refine sat_cong fun ws S2 => ?_
  rw [sat_ite]
  refine br_cong ?_ rfl
  generalize plainL ws = o
  cases o <;> rfl
theorem dCompC_sat {own : List Nat} {g : GT} {i : DI} {t : DT} {el : DE} {Q : W → Sto → Prop} : (dCompC own g i t el e S).sat Q = (i e S).sat fun p S1 => (compL g t el p.2 (uns own e) p.1 S1).sat fun ws S2 => Br (ws.length ≤ 16777216) (fun _ => Q (.c S2.length) (S2 ++ [.lst ws])) (fun _ => False) := by
  unfold dCompC
  rw [sat_bind]
  refine sat_cong fun p S1 => ?_
  rw [sat_bind]
  refine sat_cong fun ws S2 => ?_
  rw [sat_ite]
  rfl
theorem dComp2_sat {own k1 : List Nat} {g g1 : GT} {i d1 : DI} {t t1 : DT} {el : DE} {Q : W → Sto → Prop} : (dComp2 own g i t d1 g1 t1 el k1 e S).sat Q = (i e S).sat fun p S1 => (compL2 g t d1 g1 t1 el k1 p.2 (uns own e) p.1 S1).sat fun ws S2 => Br (ws.length ≤ 16777216) (fun _ => ofO' (plainL ws) fun xs => Q (.d (.lst xs)) S2) (fun _ => False) := by
  unfold dComp2
  rw [sat_bind]
  refine sat_cong fun p S1 => ?_
  rw [sat_bind]
  refine sat_cong fun ws S2 => ?_
  rw [sat_ite]
  refine br_cong ?_ rfl
  generalize plainL ws = o
  cases o <;> rfl
end
end Py

/-! Py15: how an evaluation is run; whole numbers. -/
namespace Py
open PySem PySem.Spec PyProof.Rows L2
theorem opPow18 {S : Sto} : opPow (.d (.int 10)) (.d (.int 18)) S = .ok (.d (.int 1000000000000000000)) S := by
  show (if (0 : Int) ≤ 18 ∧ (18 : Int) ≤ 1000000 ∧ Int.natAbs 10 < 2 ^ 64 then R.ok (W.d (.int ((10 : Int) ^ (18 : Int).toNat))) S else .bad) = _
  rw [if_pos (by decide)]
  rfl
theorem plainL_map {xs : List D} : plainL (xs.map W.d) = some xs := by
  induction xs with
  | nil => rfl
  | cons x xs ih =>
    rw [List.map_cons, plainL, ih]
theorem truO_bl {F : FnTab} {c f : Nat} {b : Bool} {S : Sto} : truO F c f (.d (.bl b)) S = .ok b S := rfl
theorem truO_int {F : FnTab} {c f : Nat} {b : Int} {S : Sto} : truO F c f (.d (.int b)) S = .ok (b != 0) S := rfl
theorem truO_tup {F : FnTab} {c f : Nat} {b : List D} {S : Sto} : truO F c f (.d (.tup b)) S = .ok (!b.isEmpty) S := rfl
theorem truO_lst {F : FnTab} {c f : Nat} {b : List D} {S : Sto} : truO F c f (.d (.lst b)) S = .ok (!b.isEmpty) S := rfl
theorem truO_non {F : FnTab} {c f : Nat} {S : Sto} : truO F c f (.d .non) S = .ok false S := rfl
theorem dec_t {p : Prop} [Decidable p] : ((decide p : Bool) = true) = p := by simp
theorem ofO_s {α : Type} {a : α} {Q : α → Prop} : ofO' (some a) Q = Q a := rfl
theorem ofO_n {α : Type} {Q : α → Prop} : ofO' (none : Option α) Q = False := rfl
def GV (o : Option (Option W)) (Q : W → Sto → Prop) (S : Sto) (_ : Tg Q := ⟨⟩) : Prop := match o with
  | some (some w) => Q w S
  | _ => False
theorem GV_s {w : W} {Q : W → Sto → Prop} {S : Sto} : GV (some (some w)) Q S = Q w S := rfl
def tupR (ws : List W) (S : Sto) : R W := match plainL ws with
  | some xs => if xs.length ≤ sizeLine then .ok (.d (.tup xs)) S else .bad
  | none => .bad
def lstR (ws : List W) (S : Sto) : R W := match plainL ws with
  | some xs => if xs.length ≤ sizeLine then .ok (.d (.lst xs)) S else .bad
  | none => .bad
def lstCR (ws : List W) (S : Sto) : R W := if ws.length ≤ sizeLine then .ok (.c S.length) (S ++ [.lst ws]) else .bad
def tbR (x : W) (S : Sto) : R Bool := match x with
  | .d (.bl b) => .ok b S
  | _ => .bad
def isTR (T : Ty) (x : W) (S : Sto) : R W := match tyOf x S with
  | some t => .ok (.d (.bl (isT t T))) S
  | none => .bad
def isCR (sub : Nat → Nat → Bool) (c : Nat) (x : W) (S : Sto) : R W := match tyOf x S with
  | some (.cls c') => .ok (.d (.bl (sub c' c))) S
  | some _ => .ok (.d (.bl false)) S
  | none => .bad
def someR (x : W) (S : Sto) : R (Option Int) := match x with
  | .d (.int i) => .ok (some i) S
  | _ => .bad
def itR (x : W) (S : Sto) : R (List W × (Sto → Prop)) := match itemsOf x S with
  | some p => .ok p S
  | none => .bad
section
variable {α β : Type} {Q : W → Sto → Prop} {QA : List W → Sto → Prop} {QT : Bool → Sto → Prop} {QI : List W × (Sto → Prop) → Sto → Prop} {QO : Option Int → Sto → Prop} {N : Env → Sto → Prop} {T : W → Sto → Prop} {B C : Env → Sto → Prop} {e : Env} {S : Sto} {a b o : DE} {r : DA} {t u : DT} {s s' : DS} {F Fi : FnTab} {f n c i j : Nat}
theorem s_var : (dVar i e S).sat Q = GV e[i]? Q S := by
  unfold dVar GV
  split <;> simp_all [R.sat]
theorem s_c {x : D} : (dC x e S).sat Q = Q (.d x) S := rfl
theorem s_op {g : W → W → Sto → R W} : (dOp g a b e S).sat Q = (a e S).sat fun x S1 => (b e S1).sat fun y S2 => (g x y S2).sat Q := by
  unfold dOp
  repeat' first | rfl | rw [sat_bind] | rw [sat_ne] | (refine sat_cong fun _ _ => ?_) | rw [sat_ite] | (refine br_cong ?_ ?_)
theorem s_un {g : W → Sto → R W} : (dUn g a e S).sat Q = (a e S).sat fun x S1 => (g x S1).sat Q := by
  unfold dUn
  repeat' first | rfl | rw [sat_bind] | rw [sat_ne] | (refine sat_cong fun _ _ => ?_) | rw [sat_ite] | (refine br_cong ?_ ?_)
theorem s_nil : (dNil e S).sat QA = QA [] S := rfl
theorem s_cons : (dCons a r e S).sat QA = (a e S).sat fun x S1 => (r e S1).sat fun xs S2 => QA (x :: xs) S2 := by
  unfold dCons
  repeat' first | rfl | rw [sat_bind] | rw [sat_ne] | (refine sat_cong fun _ _ => ?_) | rw [sat_ite] | (refine br_cong ?_ ?_)
theorem s_tup : (dTup r e S).sat Q = (r e S).sat fun ws S1 => (tupR ws S1).sat Q := by
  unfold dTup
  repeat' first | rfl | rw [sat_bind] | rw [sat_ne] | (refine sat_cong fun _ _ => ?_) | rw [sat_ite] | (refine br_cong ?_ ?_)
theorem s_lst : (dLst r e S).sat Q = (r e S).sat fun ws S1 => (lstR ws S1).sat Q := by
  unfold dLst
  repeat' first | rfl | rw [sat_bind] | rw [sat_ne] | (refine sat_cong fun _ _ => ?_) | rw [sat_ite] | (refine br_cong ?_ ?_)
theorem s_lstC : (dLstC r e S).sat Q = (r e S).sat fun ws S1 => (lstCR ws S1).sat Q := by
  unfold dLstC
  repeat' first | rfl | rw [sat_bind] | rw [sat_ne] | (refine sat_cong fun _ _ => ?_) | rw [sat_ite] | (refine br_cong ?_ ?_)
theorem s_frz : (dFrz a e S).sat Q = (a e S).sat fun x S1 => (frz x S1).sat Q := by
  unfold dFrz
  repeat' first | rfl | rw [sat_bind] | rw [sat_ne] | (refine sat_cong fun _ _ => ?_) | rw [sat_ite] | (refine br_cong ?_ ?_)
theorem s_call : (dCall F f n r e S).sat Q = (r e S).sat fun ws S1 => Br (ws.length = n) (fun _ => (F f ws S1).sat Q) (fun _ => False) := by
  unfold dCall
  repeat' first | rfl | rw [sat_bind] | rw [sat_ne] | (refine sat_cong fun _ _ => ?_) | rw [sat_ite] | (refine br_cong ?_ ?_)
theorem s_meth : (dMeth F c f n a r e S).sat Q = (a e S).sat fun x S1 => Br (isC c x S1 = true) (fun _ => (r e S1).sat fun ws S2 => Br (ws.length + 1 = n) (fun _ => (F f (x :: ws) S2).sat Q) (fun _ => False)) (fun _ => False) := by
  unfold dMeth
  repeat' first | rfl | rw [sat_bind] | rw [sat_ne] | (refine sat_cong fun _ _ => ?_) | rw [sat_ite] | (refine br_cong ?_ ?_)
theorem s_mk {g : List W → Sto → R W} {dfl : List D} : (dMk g dfl r e S).sat Q = (r e S).sat fun ws S1 => (g (ws ++ dfl.map W.d) S1).sat Q := by
  unfold dMk
  repeat' first | rfl | rw [sat_bind] | rw [sat_ne] | (refine sat_cong fun _ _ => ?_) | rw [sat_ite] | (refine br_cong ?_ ?_)
theorem s_mkK {g : List W → Sto → R W} {m k : Nat} {r' : DA} : (dMkK m k g r r' e S).sat Q = (r e S).sat fun ws S1 => (r' e S1).sat fun us S2 => Br (ws.length = m ∧ us.length = k) (fun _ => (g (ws ++ us) S2).sat Q) (fun _ => False) := by
  unfold dMkK
  repeat' first | rfl | rw [sat_bind] | rw [sat_ne] | (refine sat_cong fun _ _ => ?_) | rw [sat_ite] | (refine br_cong ?_ ?_)
theorem s_attr : (dAttr c i a e S).sat Q = (a e S).sat fun x S1 => (attr c i x S1).sat Q := by
  unfold dAttr
  repeat' first | rfl | rw [sat_bind] | rw [sat_ne] | (refine sat_cong fun _ _ => ?_) | rw [sat_ite] | (refine br_cong ?_ ?_)
theorem s_tr {g : W → Sto → R Bool} : (dTr g a e S).sat QT = (a e S).sat fun x S1 => (g x S1).sat QT := by
  unfold dTr
  repeat' first | rfl | rw [sat_bind] | rw [sat_ne] | (refine sat_cong fun _ _ => ?_) | rw [sat_ite] | (refine br_cong ?_ ?_)
theorem s_tb : (dTb a e S).sat QT = (a e S).sat fun x S1 => (tbR x S1).sat QT := by
  unfold dTb
  repeat' first | rfl | rw [sat_bind] | rw [sat_ne] | (refine sat_cong fun _ _ => ?_) | rw [sat_ite] | (refine br_cong ?_ ?_)
theorem s_and : (dAnd t u e S).sat QT = (t e S).sat fun c S1 => Br (c = true) (fun _ => (u e S1).sat QT) (fun _ => QT false S1) := by
  unfold dAnd
  repeat' first | rfl | rw [sat_bind] | rw [sat_ne] | (refine sat_cong fun _ _ => ?_) | rw [sat_ite] | (refine br_cong ?_ ?_)
theorem s_or : (dOr t u e S).sat QT = (t e S).sat fun c S1 => Br (c = true) (fun _ => QT true S1) (fun _ => (u e S1).sat QT) := by
  unfold dOr
  repeat' first | rfl | rw [sat_bind] | rw [sat_ne] | (refine sat_cong fun _ _ => ?_) | rw [sat_ite] | (refine br_cong ?_ ?_)
theorem s_not : (dNot t e S).sat QT = (t e S).sat fun c S1 => QT (!c) S1 := by
  unfold dNot
  repeat' first | rfl | rw [sat_bind] | rw [sat_ne] | (refine sat_cong fun _ _ => ?_) | rw [sat_ite] | (refine br_cong ?_ ?_)
theorem s_andV : (dAndV a b e S).sat Q = (a e S).sat fun x S1 => (tbR x S1).sat fun c S1 => Br (c = true) (fun _ => (b e S1).sat Q) (fun _ => Q (.d (.bl false)) S1) := by
  unfold dAndV
  rw [sat_bind]
  refine sat_cong fun x S1 => ?_
  cases x with
  | c i => rfl
  | e c x => rfl
  | d y => cases y <;> first | rfl | (show (if _ then _ else _ : R W).sat Q = _; rw [sat_ite]; rfl)
theorem s_orV : (dOrV a b e S).sat Q = (a e S).sat fun x S1 => (tbR x S1).sat fun c S1 => Br (c = true) (fun _ => Q (.d (.bl true)) S1) (fun _ => (b e S1).sat Q) := by
  unfold dOrV
  rw [sat_bind]
  refine sat_cong fun x S1 => ?_
  cases x with
  | c i => rfl
  | e c x => rfl
  | d y => cases y <;> first | rfl | (show (if _ then _ else _ : R W).sat Q = _; rw [sat_ite]; rfl)
theorem s_notV : (dNotV a e S).sat Q = (a e S).sat fun x S1 => (tbR x S1).sat fun c S1 => Q (.d (.bl (!c))) S1 := by
  unfold dNotV
  rw [sat_bind]
  refine sat_cong fun x S1 => ?_
  cases x with
  | c i => rfl
  | e c x => rfl
  | d y => cases y <;> first | rfl | (show (if _ then _ else _ : R W).sat Q = _; rw [sat_ite]; rfl)
theorem s_ifE : (dIf t a b e S).sat Q = (t e S).sat fun c S1 => Br (c = true) (fun _ => (a e S1).sat Q) (fun _ => (b e S1).sat Q) := by
  unfold dIf
  repeat' first | rfl | rw [sat_bind] | rw [sat_ne] | (refine sat_cong fun _ _ => ?_) | rw [sat_ite] | (refine br_cong ?_ ?_)
theorem s_chain {g h : W → W → Sto → R W} {d : DE} : (dChain g h a b d e S).sat Q = (a e S).sat fun x S1 => (b e S1).sat fun y S2 => (g x y S2).sat fun z S3 => (tbR z S3).sat fun k S3 => Br (k = true) (fun _ => (d e S3).sat fun u S4 => (h y u S4).sat Q) (fun _ => Q (.d (.bl false)) S3) := by
  unfold dChain
  rw [sat_bind]
  refine sat_cong fun x S1 => ?_
  rw [sat_bind]
  refine sat_cong fun y2 S2 => ?_
  rw [sat_bind, sat_ne]
  refine sat_cong fun z S3 => ?_
  cases z with
  | c i => rfl
  | e c x => rfl
  | d y =>
    cases y with
    | bl k =>
      show (if k = true then ((d e S3).bind fun u S4 => (h y2 u S4).ne) else R.ok (.d (.bl false)) S3).sat Q = Br (k = true) (fun _ => (d e S3).sat fun u S4 => (h y2 u S4).sat Q) (fun _ => Q (.d (.bl false)) S3)
      rw [sat_ite]
      refine br_cong ?_ rfl
      repeat' first | rfl | rw [sat_bind] | rw [sat_ne] | (refine sat_cong fun _ _ => ?_) | rw [sat_ite] | (refine br_cong ?_ ?_)
    | _ => rfl
theorem s_B {g : List W → Sto → R W} : (dB g r e S).sat Q = (r e S).sat fun ws S1 => (g ws S1).sat Q := by
  unfold dB
  repeat' first | rfl | rw [sat_bind] | rw [sat_ne] | (refine sat_cong fun _ _ => ?_) | rw [sat_ite] | (refine br_cong ?_ ?_)
theorem s_isT {X : Ty} : (dIsT X a e S).sat Q = (a e S).sat fun x S1 => (isTR X x S1).sat Q := by
  unfold dIsT
  repeat' first | rfl | rw [sat_bind] | rw [sat_ne] | (refine sat_cong fun _ _ => ?_) | rw [sat_ite] | (refine br_cong ?_ ?_)
theorem s_isC {sub : Nat → Nat → Bool} : (dIsC sub c a e S).sat Q = (a e S).sat fun x S1 => (isCR sub c x S1).sat Q := by
  unfold dIsC
  repeat' first | rfl | rw [sat_bind] | rw [sat_ne] | (refine sat_cong fun _ _ => ?_) | rw [sat_ite] | (refine br_cong ?_ ?_)
theorem s_none : (oNone e S).sat QO = QO none S := rfl
theorem s_some : (oSome a e S).sat QO = (a e S).sat fun x S1 => (someR x S1).sat QO := by
  unfold oSome
  repeat' first | rfl | rw [sat_bind] | rw [sat_ne] | (refine sat_cong fun _ _ => ?_) | rw [sat_ite] | (refine br_cong ?_ ?_)
theorem s_sl {l h : DO} : (dSl a l h e S).sat Q = (a e S).sat fun x S1 => (l e S1).sat fun y S2 => (h e S2).sat fun z S3 => (slc x y z S3).sat Q := by
  unfold dSl
  repeat' first | rfl | rw [sat_bind] | rw [sat_ne] | (refine sat_cong fun _ _ => ?_) | rw [sat_ite] | (refine br_cong ?_ ?_)
theorem s_app : (dApp o a e S).sat Q = (o e S).sat fun x S1 => Br (isLc x S1 = true) (fun _ => (a e S1).sat fun y S2 => ofO' (app x y S2) fun S3 => Q (.d .non) S3) (fun _ => False) := by
  unfold dApp
  repeat' first | rfl | rw [sat_bind] | rw [sat_ne] | (refine sat_cong fun _ _ => ?_) | rw [sat_ite] | (refine br_cong ?_ ?_)
  rename_i y S2
  unfold ofO'
  cases app _ y S2 <;> rfl
theorem s_any : (iAny a e S).sat QI = (a e S).sat fun x S1 => (itR x S1).sat QI := by
  unfold iAny
  repeat' first | rfl | rw [sat_bind] | rw [sat_ne] | (refine sat_cong fun _ _ => ?_) | rw [sat_ite] | (refine br_cong ?_ ?_)
theorem s_r1 : (iRange1 a e S).sat QI = (a e S).sat fun x S1 => ofO' (rg1 x) fun p => QI p S1 := by
  unfold iRange1
  repeat' first | rfl | rw [sat_bind] | rw [sat_ne] | (refine sat_cong fun _ _ => ?_) | rw [sat_ite] | (refine br_cong ?_ ?_)
  generalize rg1 _ = o
  cases o <;> rfl
theorem s_r2 : (iRange2 a b e S).sat QI = (a e S).sat fun x S1 => (b e S1).sat fun y S2 => ofO' (rg2 x y) fun p => QI p S2 := by
  unfold iRange2
  repeat' first | rfl | rw [sat_bind] | rw [sat_ne] | (refine sat_cong fun _ _ => ?_) | rw [sat_ite] | (refine br_cong ?_ ?_)
  generalize rg2 _ _ = o
  cases o <;> rfl
theorem s_r3 : (iRange3 a b o e S).sat QI = (a e S).sat fun x S1 => (b e S1).sat fun y S2 => (o e S2).sat fun z S3 => ofO' (rg3 x y z) fun p => QI p S3 := by
  unfold iRange3
  repeat' first | rfl | rw [sat_bind] | rw [sat_ne] | (refine sat_cong fun _ _ => ?_) | rw [sat_ite] | (refine br_cong ?_ ?_)
  generalize rg3 _ _ _ = o
  cases o <;> rfl
theorem s_zip : (iZip a b e S).sat QI = (a e S).sat fun x S1 => (b e S1).sat fun y S2 => ofO' (zipO x y S2) fun p => QI p S2 := by
  unfold iZip
  repeat' first | rfl | rw [sat_bind] | rw [sat_ne] | (refine sat_cong fun _ _ => ?_) | rw [sat_ite] | (refine br_cong ?_ ?_)
  generalize zipO _ _ _ = o
  cases o <;> rfl
theorem s_rev : (iRev a e S).sat QI = (a e S).sat fun x S1 => ofO' (revO x S1) fun p => QI p S1 := by
  unfold iRev
  rw [sat_bind]
  refine sat_cong fun x S1 => ?_
  generalize revO _ _ = o
  cases o <;> rfl
theorem s_enum : (iEnum a e S).sat QI = (a e S).sat fun x S1 => ofO' (enumO x S1) fun p => QI p S1 := by
  unfold iEnum
  rw [sat_bind]
  refine sat_cong fun x S1 => ?_
  generalize enumO _ _ = o
  cases o <;> rfl
theorem s_bm {T : String} {g : W → List W → Sto → R W} : (dBM T g a r e S).sat Q = (a e S).sat fun x S1 => Br (tyS T x S1 = true) (fun _ => (r e S1).sat fun ws S2 => (g x ws S2).sat Q) (fun _ => False) := by
  unfold dBM
  repeat' first | rfl | rw [sat_bind] | rw [sat_ne] | (refine sat_cong fun _ _ => ?_) | rw [sat_ite] | (refine br_cong ?_ ?_)
theorem s_callO : (dCallO F c f n a r e S).sat Q = (a e S).sat fun x S1 => Br (isC c x S1 = true) (fun _ => (r e S1).sat fun ws S2 => Br (isC c x S2 = true ∧ ws.length + 1 = n) (fun _ => (F f (x :: ws) S2).sat Q) (fun _ => False)) (fun _ => False) := by
  unfold dCallO
  repeat' first | rfl | rw [sat_bind] | rw [sat_ne] | (refine sat_cong fun _ _ => ?_) | rw [sat_ite] | (refine br_cong ?_ ?_)
theorem s_prop : (dProp Fi c f a e S).sat Q = (a e S).sat fun x S1 => Br (isC c x S1 = true) (fun _ => (Fi f [x] S1).sat Q) (fun _ => False) := by
  unfold dProp
  rw [sat_bind]
  refine sat_cong fun x S1 => ?_
  rw [sat_ite, sat_ne]
  rfl
theorem s_yes : (tYesD e S).sat QT = QT true S := rfl
theorem q_expr : (sExpr a e S).sat N T B C = (a e S).sat fun _ S1 => N e S1 := by
  unfold sExpr
  repeat' first | rfl | rw [rs_bind] | (refine sat_cong fun _ _ => ?_) | rw [rs_ite] | (refine br_cong ?_ ?_)
theorem q_ret : (sRet a e S).sat N T B C = (a e S).sat T := by
  unfold sRet
  rw [rs_bind]
  rfl
theorem q_retN : (sRetN e S).sat N T B C = T (.d .non) S := rfl
theorem q_if : (sIf t s s' e S).sat N T B C = (t e S).sat fun c S1 => Br (c = true) (fun _ => (s e S1).sat N T B C) (fun _ => (s' e S1).sat N T B C) := by
  unfold sIf
  repeat' first | rfl | rw [rs_bind] | (refine sat_cong fun _ _ => ?_) | rw [rs_ite] | (refine br_cong ?_ ?_)
theorem q_break : (sBreak e S).sat N T B C = B e S := rfl
theorem q_cont : (sCont e S).sat N T B C = C e S := rfl
theorem q_never : (sNever e S).sat N T B C = False := rfl
theorem q_asg {g : GT} : (sAsg a g e S).sat N T B C = (a e S).sat fun w S1 => ofO' (g w e) fun e1 => N e1 S1 := by
  unfold sAsg
  rw [rs_bind]
  refine sat_cong fun x S1 => ?_
  generalize g x e = o
  cases o <;> rfl
theorem q_par : (sPar i j a b e S).sat N T B C = (a e S).sat fun x S1 => (b e S1).sat fun y S2 => N ((e.set i (some x)).set j (some y)) S2 := by
  unfold sPar
  repeat' first | rfl | rw [rs_bind] | (refine sat_cong fun _ _ => ?_) | rw [rs_ite] | (refine br_cong ?_ ?_)
theorem q_aug {g : W → W → Sto → R W} : (sAug i g a e S).sat N T B C = GV e[i]? (fun x S => (a e S).sat fun y S1 => (g x y S1).sat fun z S2 => N (e.set i (some z)) S2) S := by
  unfold sAug GV
  split
  · rename_i h
    simp only [h]
    rw [rs_bind]
    refine sat_cong fun _ _ => ?_
    rw [rs_bind, sat_ne]
    rfl
  · rename_i h
    first
    | rfl
    | (split
       · rename_i x hx; exact absurd hx (h x)
       · rfl)
theorem q_sub {v : DE} : (sSub v o a e S).sat N T B C = (v e S).sat fun x S1 => (o e S1).sat fun y S2 => (a e S2).sat fun z S3 => ofO' (setIx y z x S3) fun S4 => N e S4 := by
  unfold sSub
  repeat' first | rfl | rw [rs_bind] | (refine sat_cong fun _ _ => ?_) | rw [rs_ite] | (refine br_cong ?_ ?_)
  generalize setIx _ _ _ _ = o
  cases o <;> rfl
theorem q_fld {v : DE} : (sFldD c i v o e S).sat N T B C = (v e S).sat fun x S1 => (o e S1).sat fun y S2 => ofO' (setAt c i y x S2) fun S3 => N e S3 := by
  unfold sFldD
  repeat' first | rfl | rw [rs_bind] | (refine sat_cong fun _ _ => ?_) | rw [rs_ite] | (refine br_cong ?_ ?_)
  generalize setAt _ _ _ _ _ = o
  cases o <;> rfl
theorem q_frz : (sFrz i s e S).sat N T B C = GV e[i]? (fun x S => (frz x S).sat fun w S1 => (s (e.set i (some w)) S1).sat N T B C) S := by
  unfold sFrz GV
  split
  · rename_i h; simp only [h, rs_bind]
  · rename_i h
    first
    | rfl
    | (split
       · rename_i x hx; exact absurd hx (h x)
       · rfl)
theorem q_form {g : W → Sto → R W} : RS.sat ((fun e S => match e[i]? with
  | some (some w) => bindS (g w S) e fun w' S' => s (e.set i (some w')) S'
  | _ => RS.bad : DS) e S) N T B C = GV e[i]? (fun x S => (g x S).sat fun w S1 => (s (e.set i (some w)) S1).sat N T B C) S := by
  dsimp only
  unfold GV
  split
  · rename_i h; simp only [h, rs_bind]
  · rename_i h
    first
    | rfl
    | (split
       · rename_i x hx; exact absurd hx (h x)
       · rfl)
theorem q_frz2 : (sFrz2 i s e S).sat N T B C = GV e[i]? (fun x S => (frz2 x S).sat fun w S1 => (s (e.set i (some w)) S1).sat N T B C) S := q_form
theorem q_mv : (sMv i s e S).sat N T B C = GV e[i]? (fun x S => (mv x S).sat fun w S1 => (s (e.set i (some w)) S1).sat N T B C) S := q_form
theorem q_while {ks : List Nat} : (sWhile n ks t s e S).sat N T B C = (whileL ks t s n e S).sat N T B C := rfl
end
theorem atI_0 {α : Type} {x0 : α} {l : List α} : atI (x0 :: l) 0 = some x0 := by
  unfold atI ixN
  rw [if_pos (by omega), if_pos (by simp only [List.length_cons]; omega)]
  rfl
theorem atI_1 {α : Type} {x0 x1 : α} {l : List α} : atI (x0 :: x1 :: l) 1 = some x1 := by
  unfold atI ixN
  rw [if_pos (by omega), if_pos (by simp only [List.length_cons]; omega)]
  rfl
theorem atI_2 {α : Type} {x0 x1 x2 : α} {l : List α} : atI (x0 :: x1 :: x2 :: l) 2 = some x2 := by
  unfold atI ixN
  rw [if_pos (by omega), if_pos (by simp only [List.length_cons]; omega)]
  rfl
theorem atI_3 {α : Type} {x0 x1 x2 x3 : α} {l : List α} : atI (x0 :: x1 :: x2 :: x3 :: l) 3 = some x3 := by
  unfold atI ixN
  rw [if_pos (by omega), if_pos (by simp only [List.length_cons]; omega)]
  rfl
theorem atI_4 {α : Type} {x0 x1 x2 x3 x4 : α} {l : List α} : atI (x0 :: x1 :: x2 :: x3 :: x4 :: l) 4 = some x4 := by
  unfold atI ixN
  rw [if_pos (by omega), if_pos (by simp only [List.length_cons]; omega)]
  rfl
theorem atI_5 {α : Type} {x0 x1 x2 x3 x4 x5 : α} {l : List α} : atI (x0 :: x1 :: x2 :: x3 :: x4 :: x5 :: l) 5 = some x5 := by
  unfold atI ixN
  rw [if_pos (by omega), if_pos (by simp only [List.length_cons]; omega)]
  rfl
theorem atI_6 {α : Type} {x0 x1 x2 x3 x4 x5 x6 : α} {l : List α} : atI (x0 :: x1 :: x2 :: x3 :: x4 :: x5 :: x6 :: l) 6 = some x6 := by
  unfold atI ixN
  rw [if_pos (by omega), if_pos (by simp only [List.length_cons]; omega)]
  rfl
theorem atI_7 {α : Type} {x0 x1 x2 x3 x4 x5 x6 x7 : α} {l : List α} : atI (x0 :: x1 :: x2 :: x3 :: x4 :: x5 :: x6 :: x7 :: l) 7 = some x7 := by
  unfold atI ixN
  rw [if_pos (by omega), if_pos (by simp only [List.length_cons]; omega)]
  rfl
theorem ixN_0 {n : Nat} : ixN (n + 1) 0 = some 0 := by
  unfold ixN
  rw [if_pos (by omega), if_pos (by omega)]
  rfl
theorem ixN_1 {n : Nat} : ixN (n + 2) 1 = some 1 := by
  unfold ixN
  rw [if_pos (by omega), if_pos (by omega)]
  rfl
theorem ixN_2 {n : Nat} : ixN (n + 3) 2 = some 2 := by
  unfold ixN
  rw [if_pos (by omega), if_pos (by omega)]
  rfl
theorem ixN_3 {n : Nat} : ixN (n + 4) 3 = some 3 := by
  unfold ixN
  rw [if_pos (by omega), if_pos (by omega)]
  rfl
theorem ixN_4 {n : Nat} : ixN (n + 5) 4 = some 4 := by
  unfold ixN
  rw [if_pos (by omega), if_pos (by omega)]
  rfl
theorem ixN_5 {n : Nat} : ixN (n + 6) 5 = some 5 := by
  unfold ixN
  rw [if_pos (by omega), if_pos (by omega)]
  rfl
theorem ixN_6 {n : Nat} : ixN (n + 7) 6 = some 6 := by
  unfold ixN
  rw [if_pos (by omega), if_pos (by omega)]
  rfl
theorem ixN_7 {n : Nat} : ixN (n + 8) 7 = some 7 := by
  unfold ixN
  rw [if_pos (by omega), if_pos (by omega)]
  rfl
theorem rs_hold {a b : DS} {e : Env} {S : Sto} {N : Env → Sto → Prop} {T : W → Sto → Prop} {B C : Env → Sto → Prop} (h : ∀ b', b' = b → (a e S).sat (fun e1 S1 => (b' e1 S1).sat N T B C) T B C) : (sSeq a b e S).sat N T B C := by
  rw [rs_seq]
  exact h b rfl
theorem set_get {S : Sto} {i : Nat} {o : Ce} (hi : i < S.length) : (List.set S i o)[i]? = some o := by rw [List.getElem?_set]; simp [hi]
theorem set_same {S : Sto} {i : Nat} {o : Ce} (h : S[i]? = some o) : S.set i o = S := by
  refine List.ext_getElem? fun j => ?_
  rw [List.getElem?_set]
  split
  · rename_i e
    subst e
    rw [if_pos (List.getElem?_eq_some_iff.mp h).1, h]
  · rfl
/-! whole numbers -/
theorem smallI_of {i : Int} (h0 : -1000000000 ≤ i) (h1 : i ≤ 1000000000) : smallI i = true := by
  have e : (2 : Int) ^ 62 = 4611686018427387904 := by decide
  unfold smallI
  rw [e, Bool.and_eq_true, decide_eq_true_eq, decide_eq_true_eq]
  omega
theorem intBits_lt {i : Int} {m : Nat} (h : i.natAbs < 2 ^ m) : Builtin.Int.intBits i ≤ m := by
  unfold Builtin.Int.intBits
  split
  · exact Nat.zero_le _
  · rename_i hi
    have : i.natAbs ≠ 0 := by simpa using hi
    have := (Nat.log2_lt this).mpr h
    omega
theorem mulOk {i j : Int} {m n : Nat} (hi : i.natAbs < 2 ^ m) (hj : j.natAbs < 2 ^ n) (h : m + n ≤ 134217728) : IntMulOk i j := PyProof.Rows.mulOk_of_bits (intBits_lt hi) (intBits_lt hj) h
theorem mulOkL {i j : Int} (hi : i.natAbs < 2 ^ 64) : IntMulOk i j := IntMulOk.of_left (intBits_lt hi)
theorem mulOkR {i j : Int} (hj : j.natAbs < 2 ^ 64) : IntMulOk i j := IntMulOk.of_right (intBits_lt hj)
theorem divOk {i j : Int} (hj : j.natAbs < 2 ^ 8999) : Builtin.divisionGoesByPylong i j = false := by
  refine PyProof.noPylong_of_log2 ?_
  by_cases h : j.natAbs = 0
  · rw [h]
    decide
  · exact Nat.lt_trans ((Nat.log2_lt h).mpr hj) (by decide)
theorem divOkS {i j : Int} (hj : j.natAbs < 2 ^ 64) : Builtin.divisionGoesByPylong i j = false := divOk (Nat.lt_of_lt_of_le hj (Nat.pow_le_pow_right (by decide) (by decide)))
end Py

/-! Py16: own exceptions: raise, try. -/
namespace Py
open PySem PySem.Spec PyProof.Rows L2
/-! the exception at hand does not matter to data -/
def Inf.wex (I : Inf) (e : Option (Addr × Value × Option Addr)) : Inf := ⟨I.K, I.G, I.fl, I.X, e⟩
mutual
theorem Rep.wex {I : Inf} {H : Hp} {e : Option (Addr × Value × Option Addr)} : ∀ {d : D} {v : V}, Rep I H d v → Rep (I.wex e) H d v
  | _, _, .non => .non
  | _, _, .bl b => .bl b
  | _, _, .int i => .int i
  | _, _, .str x => .str x
  | _, _, .tup h r => .tup h (Reps.wex r)
  | _, _, .lst h r => .lst h (Reps.wex r)
  | _, _, .lsx h r => .lsx h (Reps.wex r)
  | _, _, .obj g h l r => .obj g h l (Reps.wex r)
  | _, _, .dK h r => .dK h (RepK.wex r)
  | _, _, .dT h r => .dT h (RepT.wex r)
theorem Reps.wex {I : Inf} {H : Hp} {e : Option (Addr × Value × Option Addr)} : ∀ {d : List D} {v : List V}, Reps I H d v → Reps (I.wex e) H d v
  | _, _, .nil => .nil
  | _, _, .cons r t => .cons (Rep.wex r) (Reps.wex t)
theorem RepK.wex {I : Inf} {H : Hp} {e : Option (Addr × Value × Option Addr)} : ∀ {d : List (Key × D)} {v : List (Key × V)}, RepK I H d v → RepK (I.wex e) H d v
  | _, _, .nil => .nil
  | _, _, .cons r t => .cons (Rep.wex r) (RepK.wex t)
theorem RepT.wex {I : Inf} {H : Hp} {e : Option (Addr × Value × Option Addr)} : ∀ {d : List (List Key × D)} {v : List (List Key × V)}, RepT I H d v → RepT (I.wex e) H d v
  | _, _, .nil => .nil
  | _, _, .cons r t => .cons (Rep.wex r) (RepT.wex t)
end
section
variable {I : Inf} {S : Sto} {M : List Addr} {H : Hp} {e : Option (Addr × Value × Option Addr)}
theorem RepW.wex (hi : I.ex = none) {w : W} {v : V} (r : RepW I M H w v) : RepW (I.wex e) M H w v := by
  cases w with
  | d x => exact Rep.wex r
  | c i => exact r
  | e c x =>
    obtain ⟨a, cls, dd, h, _⟩ := r
    rw [hi] at h
    cases h
theorem CeAt.wex (hi : I.ex = none) {ho : Option HO} {o : Ce} (r : CeAt I M H ho o) : CeAt (I.wex e) M H ho o := by
  cases o with
  | dead => trivial
  | lst ws => obtain ⟨vs, h, q⟩ := r; exact ⟨vs, h, Paired.mapP q fun _ _ z => z.wex hi⟩
  | ins c ws => obtain ⟨C, dx, vs, g, h, l, q⟩ := r; exact ⟨C, dx, vs, g, h, l, Paired.mapP q fun _ _ z => z.wex hi⟩
  | dK kvs => obtain ⟨us, h, q⟩ := r; exact ⟨us, h, Paired.mapP q fun _ _ z => ⟨z.1, z.2.wex hi⟩⟩
  | dT kvs => obtain ⟨us, h, q⟩ := r; exact ⟨us, h, Paired.mapP q fun _ _ z => ⟨z.1, z.2.wex hi⟩⟩
theorem Sim.wex (hi : I.ex = none) (s : Sim I S M H) : Sim (I.wex e) S M H := ⟨s.len, s.nd, s.trk, fun i o a e1 e2 => (s.cell i o a e1 e2).wex hi, s.low⟩
theorem RepX.wex {c : Nat} {x : D} {cls : Value} {dd : Option Addr} (r : RepX I H c x cls dd) : RepX (I.wex e) H c x cls dd := by
  obtain ⟨C, p, v, a1, a2, a3, a4, a5⟩ := r
  exact ⟨C, p, v, a1, a2, a3, a4, a5.wex⟩
theorem Slots.wex (hi : I.ex = none) {env : Env} {σ : L2.St} (s : Slots I M H env σ) : Slots (I.wex e) M H env σ := ⟨s.len, fun i w q => let ⟨v, a, b⟩ := s.get i w q; ⟨v, a, b.wex hi⟩⟩
end
/-! a list times an int -/
def opRep : W → W → Sto → R W
  | .d (.lst xs), .d (.int k), S => if smallI k = true ∧ xs.length * k.toNat ≤ sizeLine then .ok (.d (.lst (List.replicate k.toNat xs).flatten)) S else .bad
  | _, _, _ => .bad
theorem o_rep {X : Cx} {I : Inf} : OpR X (binaryOp .Mult) (rdOp ⟨X.K, I.G, I.fl, I.X, I.ex⟩ opRep) := by
  intro pins s σ H v u ov ou Q In rv ru hh
  obtain ⟨x, y, S, M, sim, rx, ry, p⟩ := hh
  unfold opRep at p
  split at p
  · split at p
    · rename_i xs k S' hc
      obtain ⟨h1, h2⟩ := hc
      cases rx with
      | lst h r =>
      cases ry
      obtain ⟨s1, s2⟩ := sm_of h1
      refine op_rep pins s σ H _ _ ov ou Q In rv ru ⟨_, _, _, rfl, rfl, mask_ex _ _ h, by omega, by omega, by rw [← r.len]; exact h2, fun a na => new_d p sim na fun H' ha ex => .lst ha ((r.rep _).mono ex)⟩
    · exact p.elim
  · exact p.elim
/-- a short text times a number -/
def opRepS : W → W → Sto → R W
  | .d (.str x), .d (.int k), S => if x.length ≤ 16 ∧ 0 ≤ k ∧ k ≤ 1000000 then .ok (.d (.str (Txt.mul x k))) S else .bad
  | _, _, _ => .bad
theorem o_repS {X : Cx} {I : Inf} : OpR X (binaryOp .Mult) (rdOp I opRepS) := by
  intro pins s σ H v u ov ou Q In rv ru hh
  obtain ⟨x, y, S, M, sim, rx, ry, p⟩ := hh
  unfold opRepS at p
  split at p
  · split at p
    · rename_i S' z k hc
      obtain ⟨h1, h2, h3⟩ := hc
      cases rx
      cases ry
      obtain ⟨t1, rfl⟩ := rv
      obtain ⟨t2, rfl⟩ := ru
      exact PySem.W.KXi.mul (n := z.length) rfl h1 (by omega) (by omega) fun t' k' _ _ => ⟨.str (Txt.mul z k), H, In.tok _, ⟨_, rfl⟩, p.here sim (.str _)⟩
    · exact p.elim
  · exact p.elim
theorem xc_super {K : PySem.W.Frag} {C D0 : Addr} {nm q : Str} {N : Addr} {bs bm : List Value} {sn : List Str} {sub : List Value} {ab : Bool} {col : Option Bool} {dd : Option Addr} {k0 k1 k2 k3 k5 : Option Value} {nid : String}
    (hl : K.lookup C = some (excClassObj nm q C N bs bm true sn sub ab col dd k0 k1 k2 k3 k5 nid)) (hm : ((Value.ref C :: bm).dropWhile (· != .ref D0)).drop 1 = PySem.HandSPX.veTail) : PySem.W.ks_superIn K C D0 "__init__" = some (some (.builtin "ValueError.__init__")) := by
  have hcl : PySem.W.clsIn K C = some { name := nm, bases := bs, mro := .ref C :: bm, ns := N, qualname := q, hasDict := true, slotNames := sn, subclasses := sub, abstract := ab, collection := col, hasDel := false } := by unfold PySem.W.clsIn; rw [hl] <;> rfl
  unfold PySem.W.ks_superIn
  rw [hcl]
  show PySem.W.alongIn K "__init__" (((Value.ref C :: bm).dropWhile (· != .ref D0)).drop 1) = _
  rw [hm]
  kernel_rfl
/-- two classes of exceptions -/
theorem xc_pair {K : PySem.W.Frag} {C C' : Addr} {b : Bool} {nm q : Str} {N : Addr} {bs bm : List Value} {sn : List Str} {sub : List Value} {ab : Bool} {col : Option Bool} {dd : Option Addr} {k0 k1 k2 k3 k5 : Option Value} {nid : String}
    (hl : K.lookup C' = some (excClassObj nm q C' N bs bm true sn sub ab col dd k0 k1 k2 k3 k5 nid)) (heb : PySem.W.subIn K (.ref C') (.type "BaseException") = some true) (hd : PySem.W.hasDictIn K C' = true) (ty : PySem.W.typeIn K (.ref C') = some (.type "type")) (hs : PySem.W.subIn K (.ref C) (.ref C') = some b) :
    PySem.W.kitOne K (.ref C) (.ref C') = some b ∧ PySem.W.exmOne K (.ref C) (.ref C') = some b := by
  refine ⟨?_, PySem.W.exm_ref heb hd ty hs⟩
  have hcl : PySem.W.clsIn K C' = some { name := nm, bases := bs, mro := .ref C' :: bm, ns := N, qualname := q, hasDict := true, slotNames := sn, subclasses := sub, abstract := ab, collection := col, hasDel := false } := by unfold PySem.W.clsIn; rw [hl] <;> rfl
  unfold PySem.W.kitOne
  split
  · rename_i h
    have e : C = C' := Value.ref.inj (beq_iff_eq.mp h)
    subst e
    have hs : PySem.W.mroIn K C (.ref C) = some b := hs
    unfold PySem.W.mroIn at hs
    rw [hcl] at hs
    have e : some (List.contains (Value.ref C :: bm) (Value.ref C)) = some b := hs
    rw [← e]
    simp
  · show (if ((PySem.W.clsIn K C').isSome && PySem.W.typeIn K (.ref C') == some (.type "type")) = true then PySem.W.subIn K (.ref C) (.ref C') else none) = some b
    rw [hcl, ty]
    exact hs
/-! raise -/
/-- C(), C's own __init__ keeping sp -/
def tMkO0 (C : Addr) (sp : Sp) (dvs : List V) : L2.St → Hp → XK → Prop := fun _ H1 Q => ∀ a, H1 a = none → sp (.ref a :: dvs) (upd H1 a (exo a C none))
  (fun v H2 => v = .non ∧ ∃ (d : Addr) (fs : List (Str × V)), H2 a = some (exo a C (some d)) ∧ H2 d = some (exd d fs) ∧ H1 d = none ∧ Q (.ref C) (some d) (upd (del H2 a) d (.xd fs))) (fun _ _ _ => False)
theorem pmk_oex0 {X : Cx} {CX : CXT} {x : Str} {C fI : Addr} {k : Nat} {fd : FuncData} {ps : List Str} {sp : Sp} {ds : List Value} {dvs : List V} {p pos : Pos} (T : OexC X.K C) (iC : PySem.W.findIn X.K (.ref C) "__init__" = some (some (.ref fI))) (tI : PySem.W.typeIn X.K (.ref fI) = some (.type "function"))
    (F1 : FnOk X.prog X.w X.K X.mg X.base CX k fI fd ps sp) (hr : Room (k + 1) X.A) (hb : Binds X.K fd ps ds) (hd : Vals dvs ds) (hx : Passes CX X (fun _ _ _ => False)) (hg : Gl X x) (hm : X.mg x = some (.ref C))
    (hdb : (x == ("__debug__" : Str)) = false := by decide) : PMk X (.Call (.Name x p) [] [] pos) (tMkO0 C sp dvs) := by
  intro pins s σ H1 Q I1 q1
  obtain ⟨nm, q, N, bs, bm, sn, sub, ab, col, dd, k0, k1, k2, k3, k5, hC, hbm⟩ := T.cls
  refine wpAny_Call_Name_kw (ld_glob I1 hg hm ?_ hdb)
  refine PySem.W.callWith_K0 I1.kIn T.kC ?_
  show wpAny _ _ (call (.ref C) []) _ _ _
  obtain ⟨hp, g, dr, tk, os⟩ := s
  have hsz : hp.objs.size ≤ hp.objs.size + 1 := Nat.le_succ _
  have hn : H1 (hp.objs.size + 1) = none := I1.hok.fresh hsz
  have hq := q1 (hp.objs.size + 1) hn
  have kk : ∀ b o, hp.get? b = some o → ((hp.push (PySem.W.kdv_tup [])).push (PySem.HandSPX.excO C hp.objs.size)).get? b = some o := fun b o e => Heap.get?_push_of_some _ (Heap.get?_push_of_some _ e)
  have hget : ((hp.push (PySem.W.kdv_tup [])).push (PySem.HandSPX.excO C hp.objs.size)).get? (hp.objs.size + 1) = some (PySem.HandSPX.excO C hp.objs.size) := by heap_get
  have I2 : Inv X pins σ (upd H1 (hp.objs.size + 1) (exo (hp.objs.size + 1) C none)) ⟨(hp.push (PySem.W.kdv_tup [])).push (PySem.HandSPX.excO C hp.objs.size), g, dr, tk, os⟩ :=
    I1.laid (t' := tk) (a := hp.objs.size + 1) (o := exo (hp.objs.size + 1) C none) (h' := (hp.push (PySem.W.kdv_tup [])).push (PySem.HandSPX.excO C hp.objs.size)) kk hsz (exo_ok hget)
  have r2 : Vals (V.ref (hp.objs.size + 1) :: dvs) (Value.ref (hp.objs.size + 1) :: ds) := .cons rfl hd
  have hl : (Value.ref (hp.objs.size + 1) :: ([] : List Value) ++ ds).length = ps.length := by
    have e := r2.length
    rw [F1.len _ _ _ _ hq] at e
    exact e.symm
  refine wpAny_call (PySem.HandSPX.call_own F.excBase_ValueError (fun Y => PySem.HandSPX.refsVE_contains Y bm hbm) (I1.kIn _ _ hC) (PySem.W.looks_findIn I1.kIn iC) (fun self => PySem.W.bind_fn I1.kIn self tI) (Nat.zero_le _)
    (codeAny_mono (F1.run _ X.stack _ _ ⟨[Value.ref (hp.objs.size + 1)], []⟩ (Value.ref (hp.objs.size + 1) :: ds) _ _ (fun _ _ _ => False) (hr.make C [] []) (I2.env0.make C [] []) (hb _ [Value.ref (hp.objs.size + 1)] I2.kIn hl) r2 hq) fun r s' hq' => ?_))
  cases r with
  | error er => exact hx pins σ _ _ er s' I2 hq'
  | ok fl =>
    cases fl with
    | ret u =>
      obtain ⟨v, H2, os2, bare2, un2, hok2, rv, ev, d, fs, ea, ed, hd1, q2⟩ := hq'
      subst ev
      obtain ⟨h2, g2, d2, t2, os'⟩ := s'
      exact ⟨rv, mk_end (raises_own T.exC T.tyC) I1 hsz kk un2 hok2 os2 bare2 ea ed hd1 q2⟩
    | next => exact False.elim hq'
    | brk => exact False.elim hq'
    | cont => exact False.elim hq'
def sRaise (c : Nat) (d : DE) : DS := fun e S => bindS (d e S) e fun x S1 => match x with
  | .d y => .exc c y e S1
  | _ => .bad
section
variable {J : Jn} {X : Cx} {w : WX} {F Fi : FnTab} {k : Nat} {a : Expr} {da : DE} {p pos pos' : Pos} {x : Str} {c : Nat}
/-- the exception that C(what) makes -/
theorem made_at {C D0 : Addr} {y : D} {v : V} {H : Hp} {S : Sto} {M : List Addr} {env : Env} {σ : L2.St} (h : J.X c = some C) (sim : Sim (J.inf X.K) S M H) (sl : Slots (J.inf X.K) M (mask S M H) env σ) (r : RepW (J.inf X.K) M (mask S M H) (.d y) v) (IC : IniC X.K C D0)
    (q : ∀ (cls : Value) (dd : Option Addr) (σ' : L2.St) (H' : Hp) (M' : List Addr), Le S M H S M' H' → Sim (J.inf X.K) S M' H' → Slots (J.inf X.K) M' (mask S M' H') env σ' → RepX (J.inf X.K) (mask S M' H') c y cls dd → w cls dd σ' H') :
    ∀ a, H a = none → spI X.K D0 (.ref a :: [v]) (upd H a (exo a C none)) (fun u H2 => u = .non ∧ ∃ (d : Addr) (fs : List (Str × V)), H2 a = some (exo a C (some d)) ∧ H2 d = some (exd d fs) ∧ H d = none ∧ w (.ref C) (some d) σ (upd (del H2 a) d (.xd fs))) (fun _ _ _ => False) := by
  intro a na
  refine ⟨a, C, v, rfl, upd_same, IC, fun dx hdx nd => ⟨rfl, dx, _, upd_same, by rw [upd_ne nd, upd_same], by rw [upd_ne nd] at hdx; exact hdx, ?_⟩⟩
  have hd : H dx = none := by rw [upd_ne nd] at hdx; exact hdx
  have e : upd (del (upd (upd (upd H a (exo a C none)) dx (exd dx [("what", v)])) a (exo a C (some dx))) a) dx (.xd [("what", v)]) = upd H dx (.xd [("what", v)]) := by
    funext b
    by_cases hb : b = dx
    · rw [hb, upd_same, upd_same]
    · rw [upd_ne hb, upd_ne hb]
      by_cases hba : b = a
      · rw [hba, del_same, na]
      · rw [del_ne hba, upd_ne hba, upd_ne hb, upd_ne hba]
  rw [e]
  obtain ⟨s', l'⟩ := sim.new (o := .xd [(("what" : Str), v)]) hd
  exact q _ _ σ _ M l' s' (sl.mono l') ⟨C, dx, v, h, rfl, rfl, mask_new sim hd, Rep.mono l'.ex r⟩
theorem ss_raise0 (t : Cok J X w F Fi k) (h : J.sg.xn x = some c) (hg : Gl X x := by rfl) (hdb : (x == ("__debug__" : Str)) = false := by decide) : PS X (.Raise (some (.Call (.Name x p) [] [] pos)) none pos') (rdS (J.inf X.K) w (sRaise c (dC .non))) := by
  obtain ⟨C, hC, hm⟩ := t.xn x c h
  obtain ⟨D0, fI, fd, IC, h1, h2, h3, h4, h5⟩ := (t.xc c C hC).ini
  refine PS_imp (ps_raise t.calm t.tk (pmk_oex0 (dvs := [.non]) IC.T h1 h2 h3 (t.room.mono (by omega)) h5 (.cons rfl .nil) passL hg hm hdb)) fun D σ H ⟨env, S, M, sim, sl, q⟩ => ?_
  exact made_at (J := J) hC sim sl (show RepW (J.inf X.K) M (mask S M H) (.d .non) .non from .non) IC q
theorem ss_raise1 (t : Cok J X w F Fi k) (h : J.sg.xn x = some c) (ha : PE X a (rdE (J.inf X.K) w da)) (hg : Gl X x := by rfl) (hdb : (x == ("__debug__" : Str)) = false := by decide)
    (he : starEach [a] X.env = (false, eval a X.env) :: starEach [] X.env := by rfl) (hpl : (backTo pos (starEach [] X.env)).any (·.1) = false := by rfl) : PS X (.Raise (some (.Call (.Name x p) [a] [] pos)) none pos') (rdS (J.inf X.K) w (sRaise c da)) := by
  obtain ⟨C, hC, hm⟩ := t.xn x c h
  obtain ⟨D0, fI, fd, IC, h1, h2, h3, h4, h5⟩ := (t.xc c C hC).ini
  refine PS_imp (ps_raise t.calm t.tk (pmk_oex (dvs := []) IC.T h1 h2 h3 (t.room.mono (by omega)) h4 .nil passL hg hm (pa_cons ha pa_nil he) hdb he hpl)) fun D σ H q => ?_
  refine rdS_one (f := fun e x S1 => match x with
  | .d y => .exc c y e S1
  | _ => .bad) q fun x v e S M H s sl r p => ?_
  split at p
  · exact ⟨by show 1 ≤ 1000; decide, made_at (J := J) hC s sl r IC p⟩
  · exact p.elim
end
/-! try -/
open Classical in
/-- try: b, except (the class k) as (slot i): h; h gives data back and leaves the store -/
noncomputable def sTry (b : DS) (xs : Nat → Nat → Bool) (k i : Nat) (h : DS) : DS := fun e S => match b e S with
  | .exc c x e' S' => if xs c k = true then (match h (e'.set i (some (.e c x))) S' with
    | .rt (.d y) S'' => if S'' = S' then .rt (.d y) S' else .bad
    | _ => .bad) else .exc c x e' S'
  | r => r
/-- in an except suite: the exception at hand -/
def Jn.at (J : Jn) (a : Addr) (cls : Value) (dd : Option Addr) : Jn := ⟨J.sg, J.G, J.X, some (a, cls, dd)⟩
theorem Rep.wex' {I : Inf} {H : Hp} {e : Option (Addr × Value × Option Addr)} {d : D} {v : V} (r : Rep (I.wex e) H d v) : Rep I H d v := Rep.wex (I := I.wex e) (e := I.ex) r
section
variable {I : Inf} {M : List Addr} {H H' : Hp} {e : Option (Addr × Value × Option Addr)}
theorem RepW.unwex (hi : I.ex = none) {w : W} {v v' : V} (r : RepW I M H w v) (r' : RepW (I.wex e) M H' w v') : RepW I M H' w v' := by
  cases w with
  | d x => exact Rep.wex' (I := I) r'
  | c i => exact r'
  | e c x =>
    obtain ⟨a, cls, dd, h, _⟩ := r
    rw [hi] at h
    cases h
theorem RepWs.unwex (hi : I.ex = none) : ∀ {ws : List W} {vs vs' : List V}, RepWs I M H ws vs → RepWs (I.wex e) M H' ws vs' → RepWs I M H' ws vs'
  | [], _, _, .nil, .nil => .nil
  | _ :: _, _, _, .cons r t, .cons r' t' => .cons (r.unwex hi r') (RepWs.unwex hi t t')
theorem pairK_unwex {κ : Type} (hi : I.ex = none) : ∀ {ws : List (κ × W)} {vs vs' : List (κ × V)}, Paired (fun (p : κ × W) (q : κ × V) => p.1 = q.1 ∧ RepW I M H p.2 q.2) ws vs → Paired (fun (p : κ × W) (q : κ × V) => p.1 = q.1 ∧ RepW (I.wex e) M H' p.2 q.2) ws vs' → Paired (fun (p : κ × W) (q : κ × V) => p.1 = q.1 ∧ RepW I M H' p.2 q.2) ws vs'
  | [], _, _, .nil, .nil => .nil
  | _ :: _, _, _, .cons r t, .cons r' t' => .cons ⟨r'.1, r.2.unwex hi r'.2⟩ (pairK_unwex hi t t')
theorem CeAt.unwex (hi : I.ex = none) {ho ho' : Option HO} {o : Ce} (r : CeAt I M H ho o) (r' : CeAt (I.wex e) M H' ho' o) : CeAt I M H' ho' o := by
  cases o with
  | dead => trivial
  | lst ws =>
    obtain ⟨vs, h, q⟩ := r
    obtain ⟨vs', h', q'⟩ := r'
    exact ⟨vs', h', q.unwex hi q'⟩
  | ins c ws =>
    obtain ⟨C, dx, vs, g, h, l, q⟩ := r
    obtain ⟨C', dx', vs', g', h', l', q'⟩ := r'
    exact ⟨C', dx', vs', g', h', l', q.unwex hi q'⟩
  | dK kvs =>
    obtain ⟨us, h, q⟩ := r
    obtain ⟨us', h', q'⟩ := r'
    exact ⟨us', h', pairK_unwex hi q q'⟩
  | dT kvs =>
    obtain ⟨us, h, q⟩ := r
    obtain ⟨us', h', q'⟩ := r'
    exact ⟨us', h', pairK_unwex hi q q'⟩
end
section
variable {J : Jn} {X : Cx} {w : WX} {F Fi : FnTab} {k : Nat} {body suite : List Stmt} {b0 : Stmt} {np pos pos' : Pos} {x n : Str} {kc i : Nat} {db dh : DS}
theorem Cok.tr (t : Cok J X w F Fi k) {W0 : WX} {pn : List (Addr × Obj)} {xe : Value → Shared → Prop} (tk : Takes (X.tr pn xe) W0) (po : PassesOwn (model X.prog X.w) X.A X.env xe) : Cok J (X.tr pn xe) W0 F Fi k := ⟨t.toTb, t.calm, t.nd, tk, po, t.room, t.dp, t.sa⟩
theorem ss_try (t : Cok J X w F Fi k) (hj : J.ex = none) (hs : X.stack = X.env :: X.outer) (hf : X.env.frame = some X.env.locals) (hi : X.N[i]? = some n) (hln : X.env.kindOf n = some .local) (hk : J.sg.xn x = some kc) (hg : Gl X x) (hdb : (x == ("__debug__" : Str)) = false)
    (hb : ∀ (W0 : WX) (pn : List (Addr × Obj)) (xe : Value → Shared → Prop), Cok J (X.tr pn xe) W0 F Fi k → PSs (X.tr pn xe) body (rdS (J.inf X.K) W0 db))
    (hsu : ∀ (a : Addr) (oe : Obj) (cls : Value) (d : Option Addr) (pn : List (Addr × Obj)), Zc cls d oe → (∃ vs, oe.data = .fields vs) → PSs (X.suite a ((a, oe) :: pn)) (b0 :: suite) (rdS ((J.at a cls d).inf X.K) w0 dh)) :
    PS X (.Try body [.ExceptHandler (some (.Name x np)) (some n) (b0 :: suite) pos'] [] [] pos) (rdS (J.inf X.K) w (sTry db J.sg.xs kc i dh)) := by
  obtain ⟨C, hC, hm⟩ := t.xn x kc hk
  refine PS_imp (ps_try_as (tb := fun W0 => rdS (J.inf X.K) W0 db) (ts := fun a cls d => rdS ((J.at a cls d).inf X.K) w0 dh) (Wout := w) hs hf t.nd hi hln (c := .ref C) ⟨hg, hdb, .inl hm⟩ t.tk (fun W0 pn xe tk po => hb W0 pn xe (t.tr tk po)) hsu) fun D σ H ⟨env, S, M, sim, sl, p⟩ => ⟨env, S, M, sim, sl, ?_⟩
  unfold sTry at p
  generalize db env S = r at p ⊢
  cases r with
  | nx e S1 => exact p
  | rt v S1 => exact p
  | bk e S1 => exact p
  | ct e S1 => exact p
  | bad => exact p
  | exc c y e1 S1 =>
    intro cls dd σ1 H1 M1 l1 s1 sl1 rx
    obtain ⟨Cc, px, vx, x1, x2, x3, x4, x5⟩ := id rx
    refine ⟨J.sg.xs c kc, by rw [x2]; exact (t.xs c kc Cc C x1 hC).2, fun hb1 a na => ?_, fun hb1 => ?_⟩
    · dsimp only at p
      rw [if_pos hb1] at p
      have hi0 : (J.inf X.K).ex = none := hj
      refine ⟨e1.set i (some (.e c y)), S1, M1, s1.wex hi0, (sl1.wex hi0).set (v := .ref a) (w := .e c y) ⟨a, cls, dd, rfl, rfl, rx.wex⟩, ?_⟩
      generalize dh (e1.set i (some (.e c y))) S1 = r2 at p ⊢
      cases r2 with
      | nx e S1 => exact p.elim
      | bk e S1 => exact p.elim
      | ct e S1 => exact p.elim
      | exc c x e S => exact p.elim
      | bad => exact p.elim
      | rt v S2 =>
        cases v with
        | c j => exact p.elim
        | e c x => exact p.elim
        | d z =>
          dsimp only at p
          split at p
          · rename_i hS
            subst hS
            intro v H2 M2 l2 s2 r2
            have pre : M1 = M2 := by
              obtain ⟨tl, rfl⟩ := l2.pre
              have h1 := s1.len
              have h2 := s2.len
              rw [List.length_append] at h2
              cases tl with
              | nil => rw [List.append_nil]
              | cons q tl => simp at h2; omega
            subst pre
            have ex : Ex (mask S2 M1 H1) (mask S2 M1 H2) := l2.ex
            have s3 : Sim (J.inf X.K) S2 M1 H2 := ⟨s1.len, s1.nd, s2.trk, fun j o b e1 e2 => ?_, s1.low⟩
            · exact p v H2 M1 (l1.trans ⟨List.prefix_refl _, ex⟩) s3 (Rep.wex' (I := J.inf X.K) r2)
            · have h1 := s1.cell j o b e1 e2
              have h2 := s2.cell j o b e1 e2
              exact CeAt.unwex (I := J.inf X.K) (e := some (a, cls, dd)) hi0 h1 h2
          · exact p.elim
    · dsimp only at p
      rw [if_neg (by rw [hb1]; decide)] at p
      exact p cls dd σ1 H1 M1 l1 s1 sl1 rx
end
/-! in the suite -/
def dIsE (xs : Nat → Nat → Bool) (kc i : Nat) : DE := fun e S => match e[i]? with
  | some (some (.e c _)) => .ok (.d (.bl (xs c kc))) S
  | _ => .bad
def dIsVE (i : Nat) : DE := fun e S => match e[i]? with
  | some (some (.e _ _)) => .ok (.d (.bl true)) S
  | _ => .bad
def dWh (i : Nat) : DE := fun e S => match e[i]? with
  | some (some (.e _ x)) => .ok (.d x) S
  | _ => .bad
/-- isinstance(e, c), e the exception that the suite holds, its dict in the heap -/
def rIsX (K : PySem.W.Frag) (D0 a : Addr) (d : Option Addr) : List V → Hp → VK → Prop := fun xs H Q => ∃ (c : V) (cv : Value) (b : Bool) (dx : Addr) (fs : List (Str × V)), xs = [.ref a, c] ∧ (∀ u, RelV c u → u = cv) ∧ PySem.W.kitOne K (.ref D0) cv = some b ∧ d = some dx ∧ H dx = some (.xd fs) ∧ Q (.bl b) H
theorem call_isX {X : Cx} {a D0 : Addr} {d : Option Addr} {oe : Obj} {pn : List (Addr × Obj)} (C : ExcC X.K D0) (hz : Zc (.ref D0) d oe) (hf : ∃ vs, oe.data = .fields vs) : CallR (X.suite a ((a, oe) :: pn)) (.builtin "isinstance") (rIsX X.K D0 a d) := by
  intro pins s σ H xs us Q I r h
  obtain ⟨c, cv, b, dx, fs, rfl, hcv, e, rfl, hd, q⟩ := h
  cases r with
  | cons rx rr =>
    cases rr with
    | cons rt rr =>
      cases rr
      cases rx
      have ec := hcv _ rt
      subst ec
      obtain ⟨hget, _⟩ := I.pin (a, oe) (List.mem_append.mpr (.inl List.mem_cons_self))
      obtain ⟨vs, hv⟩ := hf
      have hx : ObjOk X.prog X.w H s.heap dx (.xd fs) := I.hok dx _ hd
      obtain ⟨mA, hns, hr⟩ := hx
      obtain ⟨od, ho, hl⟩ := lookIn_ns hns
      have J : PySem.W.InstAt s.heap a oe D0 (some od) := ⟨hget, hz.1, by unfold PySem.W.notCls; rw [hv] <;> rfl, by rw [hz.2]; exact ho⟩
      obtain ⟨cdD, hcD, _⟩ := PySem.W.any_some C.hd
      exact PySem.W.kia_one (PySem.W.kitx_exc (od := some od) (by rw [hcD]; rfl) C.hg C.hk C.hs C.ha C.hn C.ht C.hm) I.kIn J e (fun z => nomatch z) fun tk => ⟨.bl b, H, I.kept (t' := tk) fun _ _ z => z, rfl, q⟩
section
variable {J : Jn} {X : Cx} {w : WX} {F Fi : FnTab} {k : Nat} {pos p pt pe : Pos} {xt n : Str} {kc i : Nat} {a : Addr} {oe : Obj} {cls : Value} {d : Option Addr} {pn : List (Addr × Obj)}
theorem e_at {H : Hp} {σ : L2.St} {env : Env} {S : Sto} {M : List Addr} {c : Nat} {y : Py.D} {K : PySem.W.Frag} (sl : Slots ((J.at a cls d).inf K) M (mask S M H) env σ) (e : env[i]? = some (some (.e c y))) : σ[i]? = some (some (.ref a)) ∧ RepX ((J.at a cls d).inf K) (mask S M H) c y cls d := by
  obtain ⟨v, e1, b, cls', dd', h1, rfl, h2⟩ := sl.get i _ e
  have h1 : some (a, cls, d) = some (b, cls', dd') := h1
  cases h1
  exact ⟨e1, h2⟩
theorem sx_isE (t : Cok J X w F Fi k) (hz : Zc cls d oe) (hf : ∃ vs, oe.data = .fields vs) (hk : J.sg.xn xt = some kc) (hb : J.sg.blt "isinstance" = true) (hN : X.N[i]? = some n := by rfl) (hv : Vis X.env.scope n := by first | exact Or.inl rfl | exact Or.inr (Or.inl rfl) | exact Or.inr (Or.inr rfl))
    (hg : Gl X "isinstance" := by rfl) (hg2 : Gl X xt := by rfl) (hn1 : (n == ("__debug__" : Str)) = false := by decide) (hn2 : (n == ("__classdict__" : Str)) = false := by decide) (hdb2 : (xt == ("__debug__" : Str)) = false := by decide)
    (he : starEach [.Name n pe, .Name xt pt] X.env = (false, eval (.Name n pe) X.env) :: starEach [.Name xt pt] X.env := by rfl) (hpl : (backTo pos (starEach [.Name xt pt] X.env)).any (·.1) = false := by rfl) :
    PE (X.suite a ((a, oe) :: pn)) (.Call (.Name "isinstance" p) [.Name n pe, .Name xt pt] [] pos) (rdE ((J.at a cls d).inf X.K) w0 (dIsE J.sg.xs kc i)) := by
  refine ⟨fun pins s σ H Q In ⟨env, S, M, sim, sl, q⟩ => ?_⟩
  unfold dIsE at q
  split at q
  · rename_i c y hc
    obtain ⟨e1, C, px, v, x1, x2, x3, x4, x5⟩ := e_at sl hc
    subst x2
    subst x3
    obtain ⟨C', hC', hm⟩ := t.xn xt kc hk
    refine (pe_callB (X := X.suite a ((a, oe) :: pn)) (call_isX (t.xc c C x1).E hz hf) hg (t.glb _ hb) (by decide +kernel) (pa_cons (pe_var (X := X.suite a ((a, oe) :: pn)) hN hv hn1 hn2) (pa_cons (pe_glob (X := X.suite a ((a, oe) :: pn)) (v := .ref C') hg2 hm rfl hdb2) pa_nil) he) (by decide) (by decide) he hpl).run pins s σ H Q In ?_
    exact ⟨.ref a, e1, .ref C', .ref C', _, px, _, rfl, fun u h => h, (t.xs c kc C C' x1 hC').1, rfl, mask_ex _ _ x4, q.here sim (.bl _)⟩
  · exact q.elim
theorem sx_isVE (t : Cok J X w F Fi k) (hz : Zc cls d oe) (hf : ∃ vs, oe.data = .fields vs) (hb : J.sg.blt "isinstance" = true) (hb2 : J.sg.blt "ValueError" = true) (hN : X.N[i]? = some n := by rfl) (hv : Vis X.env.scope n := by first | exact Or.inl rfl | exact Or.inr (Or.inl rfl) | exact Or.inr (Or.inr rfl))
    (hg : Gl X "isinstance" := by rfl) (hg2 : Gl X "ValueError" := by rfl) (hn1 : (n == ("__debug__" : Str)) = false := by decide) (hn2 : (n == ("__classdict__" : Str)) = false := by decide)
    (he : starEach [.Name n pe, .Name "ValueError" pt] X.env = (false, eval (.Name n pe) X.env) :: starEach [.Name "ValueError" pt] X.env := by rfl) (hpl : (backTo pos (starEach [.Name "ValueError" pt] X.env)).any (·.1) = false := by rfl) :
    PE (X.suite a ((a, oe) :: pn)) (.Call (.Name "isinstance" p) [.Name n pe, .Name "ValueError" pt] [] pos) (rdE ((J.at a cls d).inf X.K) w0 (dIsVE i)) := by
  refine ⟨fun pins s σ H Q In ⟨env, S, M, sim, sl, q⟩ => ?_⟩
  unfold dIsVE at q
  split at q
  · rename_i c y hc
    obtain ⟨e1, C, px, v, x1, x2, x3, x4, x5⟩ := e_at sl hc
    subst x2
    subst x3
    refine (pe_callB (X := X.suite a ((a, oe) :: pn)) (call_isX (t.xc c C x1).E hz hf) hg (t.glb _ hb) (by decide +kernel) (pa_cons (pe_var (X := X.suite a ((a, oe) :: pn)) hN hv hn1 hn2) (pa_cons (pe_bltn (X := X.suite a ((a, oe) :: pn)) (v := .ty "ValueError") (u := .type "ValueError") hg2 (t.glb _ hb2) (by decide +kernel) rfl) pa_nil) he) (by decide) (by decide) he hpl).run pins s σ H Q In ?_
    exact ⟨.ref a, e1, .ty "ValueError", .type "ValueError", true, px, _, rfl, fun u h => h, t.xv c C x1, rfl, mask_ex _ _ x4, q.here sim (.bl _)⟩
  · exact q.elim
theorem sx_what (t : Cok J X w F Fi k) (hz : Zc cls d oe) (hf : ∃ vs, oe.data = .fields vs) (hN : X.N[i]? = some n := by rfl) (hv : Vis X.env.scope n := by first | exact Or.inl rfl | exact Or.inr (Or.inl rfl) | exact Or.inr (Or.inr rfl)) (hn1 : (n == ("__debug__" : Str)) = false := by decide) (hn2 : (n == ("__classdict__" : Str)) = false := by decide)
    (hab : attributeBase (.Name n pe) "what" X.env (eval (.Name n pe) X.env) = eval (.Name n pe) X.env := by rfl) :
    PE (X.suite a ((a, oe) :: pn)) (.Attribute (.Name n pe) "what" pos) (rdE ((J.at a cls d).inf X.K) w0 (dWh i)) := by
  refine ⟨fun pins s σ H Q In ⟨env, S, M, sim, sl, q⟩ => ?_⟩
  unfold dWh at q
  split at q
  · rename_i c y hc
    obtain ⟨e1, C, px, v, x1, x2, x3, x4, x5⟩ := e_at sl hc
    subst x2
    subst x3
    obtain ⟨D0, fI, fd, IC, _⟩ := (t.xc c C x1).ini
    have E := (t.xc c C x1).E
    refine (pe_xf (X := X) (n := "what") (C := C) ⟨E.hg, E.hk, E.hs, E.hd⟩ IC.wh hz hf (pe_var (X := X.suite a ((a, oe) :: pn)) hN hv hn1 hn2) hab).run pins s σ H Q In ?_
    exact ⟨.ref a, e1, rfl, rfl, px, _, v, rfl, mask_ex _ _ x4, by simp [List.lookup], q.here sim (show RepW ((J.at a (.ref C) (some px)).inf X.K) M (mask S M H) (.d y) v from x5)⟩
  · exact q.elim
end
end Py

/-! Py17: texts and lists turned round. -/
namespace Py
open PySem PySem.Spec PyProof.Rows L2
def revS (z : Str) : Str := ⟨z.cps.toList.reverse.toArray⟩
theorem range_back (n : Nat) : (List.range n).map (fun k => n - 1 - k) = (List.range n).reverse := by
  refine List.ext_getElem (by simp) fun i h1 h2 => ?_
  simp
theorem pick_back (z : Str) : ((Builtin.Str.strSliceIndices none none (-1) z.length).filterMap (z.cps[·]?)).toArray = z.cps.toList.reverse.toArray := by
  rw [picked_rev, range_back]
  congr 1
  rw [List.filterMap_reverse]
  congr 1
  show (List.range z.cps.size).filterMap (z.cps[·]?) = _
  refine List.ext_getElem? fun i => ?_
  have : ∀ (l : List Nat), (List.range l.length).filterMap (fun i => l[i]?) = l := fun l => by
    induction l with
    | nil => rfl
    | cons x l ih =>
      rw [List.length_cons, List.range_succ_eq_map, List.filterMap_cons]
      simp only [List.getElem?_cons_zero, List.filterMap_map, Function.comp_def, List.getElem?_cons_succ]
      rw [ih]
  have h2 := this z.cps.toList
  simp only [Array.getElem?_toList] at h2
  rw [show z.cps.toList.length = z.cps.size by simp] at h2
  rw [h2]
section
variable {X : Cx} {I : Inf} {w : WX} {e : Expr} {de : DE} {k : Nat} {p1 p2 p3 pos : Pos}
def tBack (te : TE) : TE := fun σ H Q => te σ H fun x H1 => ∃ z, x = .str z ∧ z.length ≤ sizeLine ∧ Q (.str (revS z)) H1
theorem pe_back {te : TE} (ht : PE X e te) : PE X (.Subscript e (.Slice none none (some (.UnaryOp .USub (.Constant (.int 1) k p1) p2)) p3) pos) (tBack te) := by
  refine ⟨fun pn sh st hp post iv wt => ?_⟩
  refine Subscript_ (thn (ht.run pn sh st hp _ iv wt) fun val sh1 hh => ?_)
  obtain ⟨x, hp1, iv1, rel, z, ex, hz, hq⟩ := hh
  subst ex
  obtain ⟨tk, rfl⟩ := rel
  have neg1 : PO X (some (.UnaryOp .USub (.Constant (.int 1) k p1) p2)) (tPart (tUn (rU fun i => .int (-i)) (tC (.int 1)))) := po_some (pe_un un_neg pe_int)
  refine wpAny_Slice (thn (po_none.run pn sh1 st hp1 (fun o g => o = none ∧ g = hp1) iv1 ⟨rfl, rfl⟩) fun v1 sh2 h2 => ?_)
  obtain ⟨o1, g1, iv2, q1, e1, e2⟩ := h2
  subst e1 e2
  refine thn (po_none.run pn sh2 st g1 (fun o g => o = none ∧ g = g1) iv2 ⟨rfl, rfl⟩) fun v2 sh3 h3 => ?_
  obtain ⟨o2, g2, iv3, q2, e3, e4⟩ := h3
  subst e3 e4
  refine thn (neg1.run pn sh3 st g2 (fun o g => o = some (-1) ∧ g = g2) iv3 ⟨1, rfl, -1, rfl, rfl, rfl⟩) fun v3 sh4 h4 => ?_
  obtain ⟨o3, g3, iv4, q3, e5, e6⟩ := h4
  subst e5 e6
  obtain ⟨l, rfl, hl⟩ := IsPart.raw q1
  obtain ⟨u, rfl, hu⟩ := IsPart.raw q2
  obtain ⟨s, rfl, hs⟩ := IsPart.raw q3
  have iv5 : Inv X pn st g3 { sh4 with heap := sh4.heap.push { cls := .type "slice", data := .fields #[partValue l, partValue u, partValue s] } } := iv4.kept (t' := sh4.toks) fun b ob q => Heap.get?_push_of_some _ q
  show wpAny (model X.prog X.w) X.A (subscriptTail e (.Slice none none (some (.UnaryOp .USub (.Constant (.int 1) k p1) p2)) p3) (.str z tk) (.ref sh4.heap.objs.size)) (EP X pn st post) X.xe _
  refine tail_any (ops := [.ref sh4.heap.objs.size, .str z tk]) (typeIs_str _ z tk) F.slot_str_getitem.lookup ?_ (by with_unfolding_all rfl)
  have l0 : l = none := by
    cases l with
    | none => rfl
    | some a => cases hl
  have u0 : u = none := by
    cases u with
    | none => rfl
    | some a => cases hu
  subst l0 u0
  obtain ⟨⟨si, stk⟩, rfl⟩ : ∃ a, s = some a := by
    cases s with
    | none => cases hs
    | some a => exact ⟨a, rfl⟩
  obtain rfl : si = -1 := by simpa using hs
  refine wpAny_getItem_str_slice (l := none) (u := none) (st := some (-1, stk)) ⟨_, Heap.get?_push_size _ rfl, rfl, rfl⟩ (by rfl) ?_
  have c : ¬ ((((some ((-1 : Int), stk)).map (·.1)).getD 1 == 1 && (slicePicked z none none (some (-1, stk))).length == z.length) = true) := by
    rw [show (((some ((-1 : Int), stk)).map (·.1)).getD 1 == 1) = false from rfl, Bool.false_and]
    exact Bool.false_ne_true
  unfold sliceMade
  rw [if_neg c]
  have hr : (⟨((slicePicked z none none (some (-1, stk))).filterMap (z.cps[·]?)).toArray⟩ : Str) = revS z := congrArg Str.mk (pick_back z)
  rw [hr]
  have hlen : (revS z).length ≤ sizeLine := by
    show (z.cps.toList.reverse.toArray).size ≤ _
    rw [List.size_toArray, List.length_reverse]
    show z.cps.toList.length ≤ _
    rw [show z.cps.toList.length = z.cps.size by simp]
    exact hz
  exact ⟨hlen, .str _, g3, iv5.tok _, ⟨_, rfl⟩, hq⟩
def gBack : W → Sto → R W
  | .d (.str z), S => if z.length ≤ sizeLine then .ok (.d (.str (revS z))) S else .bad
  | _, _ => .bad
def gBackL : W → Sto → R W
  | .d (.lst xs), S => .ok (.d (.lst xs.reverse)) S
  | .d (.lsx xs), S => .ok (.d (.lst xs.reverse)) S
  | _, _ => .bad
@[simp] def dBack (da : DE) : DE := fun e S => (da e S).bind gBack
@[simp] def dBackL (da : DE) : DE := fun e S => (da e S).bind gBackL
theorem sx_back (he : PE X e (rdE I w de)) : PE X (.Subscript e (.Slice none none (some (.UnaryOp .USub (.Constant (.int 1) k p1) p2)) p3) pos) (rdE I w (dBack de)) :=
  PE_imp (pe_back he) fun σ H Q q => by
    obtain ⟨en, S, M, sim, sl, p⟩ := q
    refine ⟨en, S, M, sim, sl, (EndR.bind (rel1 := RepW I) p).imp fun v H1 ⟨x, S1, M1, l1, s1, r1, p1⟩ => ?_⟩
    unfold gBack at p1
    split at p1
    · split at p1
      · rename_i hz
        cases r1
        exact ⟨_, rfl, hz, p1.here s1 (.str _)⟩
      · exact p1.elim
    · exact p1.elim
theorem sx_backL {G : Nat → Option Addr} {fl : Nat → List Str} {XX : Nat → Option Addr} {ex : Option (Addr × Value × Option Addr)} (he : PE X e (rdE ⟨X.K, G, fl, XX, ex⟩ w de)) : PE X (.Subscript e (.Slice none none (some (.UnaryOp .USub (.Constant (.int 1) k p1) p2)) p3) pos) (rdE ⟨X.K, G, fl, XX, ex⟩ w (dBackL de)) :=
  PE_imp (pe_revL he) fun σ H Q q => by
    obtain ⟨en, S, M, sim, sl, p⟩ := q
    refine ⟨en, S, M, sim, sl, (EndR.bind (rel1 := RepW _) p).imp fun v H1 ⟨x, S1, M1, l1, s1, r1, p1⟩ => ?_⟩
    unfold gBackL at p1
    split at p1
    · cases r1 with
      | lst h r => exact ⟨_, _, rfl, .inl (.inl (mask_ex _ _ h)), fun a na => new_d p1 s1 na fun H' ha ex => .lst ha (r.reverse.mono ex)⟩
    · cases r1 with
      | lsx h r => exact ⟨_, _, rfl, ex_l mask_ex h, fun a na => new_d p1 s1 na fun H' ha ex => .lst ha (r.reverse.mono ex)⟩
    · exact p1.elim
end
section
variable {Q : W → Sto → Prop} {e : Env} {S : Sto} {a : DE}
theorem s_back : (dBack a e S).sat Q = (a e S).sat fun x S1 => (gBack x S1).sat Q := by
  unfold dBack
  rw [sat_bind]
theorem s_backL : (dBackL a e S).sat Q = (a e S).sat fun x S1 => (gBackL x S1).sat Q := by
  unfold dBackL
  rw [sat_bind]
end
end Py

/-! Py18: a list put together anew, as a cell. -/
namespace Py
open PySem PySem.Spec PyProof.Rows L2
def opAddC (x y : W) (S : Sto) : R W :=
  match lstOf x S, lstOf y S with
    | some xs, some ys => if xs.length + ys.length ≤ sizeLine then .ok (.c S.length) (S ++ [.lst ((xs ++ ys).map W.d)]) else .bad
    | _, _ => .bad
theorem o_addC {X : Cx} {I : Inf} : OpR X (binaryOp .Add) (rdOp ⟨X.K, I.G, I.fl, I.X, I.ex⟩ opAddC) := by
  intro pins s σ H v u ov ou Q In rv ru hh
  obtain ⟨x, y, S, M, sim, rx, ry, p⟩ := hh
  unfold opAddC at p
  split at p
  · rename_i xs ys e1 e2
    split at p
    · rename_i hl
      obtain ⟨a, vs, rfl, h1, r1⟩ := lstOf_at sim rx e1
      obtain ⟨b, us, rfl, h2, r2⟩ := lstOf_at sim ry e2
      have rr := reps_map (M := M) (r1.append r2)
      exact op_cat pins s σ H _ _ ov ou Q In rv ru ⟨a, b, vs, us, rfl, rfl, h1, h2, by rw [← r1.len, ← r2.len]; exact hl, fun q nq => new_c p sim nq (lows_of sim rr) ⟨_, rfl, rr⟩ (by intro z; cases z)⟩
    · exact p.elim
  · exact p.elim
end Py

/-! Py19: a number and a text, put in order. -/
namespace Py
open PySem PySem.Spec PyProof.Rows L2
def opLtP : W → W → Sto → R W
  | .d (.tup [.int i, .str a]), .d (.tup [.int j, .str b]), S => .ok (.d (.bl (if i = j then decide (a.cps.toList < b.cps.toList) else decide (i < j)))) S
  | _, _, _ => .bad
theorem op_ltP {X : Cx} (hu : X.A.units < cLine) : OpR X (compareOp .Lt) (fun x y H Q => ∃ (a b : Addr) (i j : Int) (z z2 : Str), x = .ref a ∧ y = .ref b ∧ SqT X.K H a [.int i, .str z] ∧ SqT X.K H b [.int j, .str z2] ∧ Q (.bl (if i = j then decide (z.cps.toList < z2.cps.toList) else decide (i < j))) H) := by
  intro pins s σ H x y v u Q I rx ry h
  obtain ⟨a, b, i, j, z, z2, rfl, rfl, ha, hb, q⟩ := h
  cases rx
  cases ry
  obtain ⟨its, r1, p1, _⟩ := I.tuple ha
  obtain ⟨its2, r2, p2, _⟩ := I.tuple hb
  cases r1 with
  | cons ra r1 =>
  cases r1 with
  | cons rb r1 =>
  cases r1
  cases r2 with
  | cons sa r2 =>
  cases r2 with
  | cons sb r2 =>
  cases r2
  obtain ⟨t1, rfl⟩ := ra
  obtain ⟨t2, rfl⟩ := rb
  obtain ⟨t3, rfl⟩ := sa
  obtain ⟨t4, rfl⟩ := sb
  have R := Ob.RcOp.tuples_lt (A := X.A) (s := s) (e := fun k => if k = 0 then i == j else z == z2) (r := fun k => if k = 0 then decide (i < j) else decide (z.cps.toList < z2.cps.toList)) p1 p2 hu (fun k h1 h2 => by
    match k, h1 with
    | 0, _ => exact SeqAt.EqAt.int_int _ _ _ _
    | 1, _ => exact SeqAt.EqAt.str_str _ _ _ _) (fun k h1 h2 _ => by
    match k, h1 with
    | 0, _ => exact Ob.RcOp.lt_int _ _ _ _
    | 1, _ => exact fun _ _ _ _ h => PyProof.Rows.lt_str h)
  refine R X.prog X.w X.xe (EP X pins σ Q) ⟨.bl _, H, I, rfl, ?_⟩
  have e : Ob.lexAt (fun k => if k = 0 then i == j else z == z2) (fun k => if k = 0 then decide (i < j) else decide (z.cps.toList < z2.cps.toList)) (decide (([Value.int i t1, Value.str z t2].toArray).size < ([Value.int j t3, Value.str z2 t4].toArray).size)) 0 (min ([Value.int i t1, Value.str z t2].toArray).size ([Value.int j t3, Value.str z2 t4].toArray).size) = if i = j then decide (z.cps.toList < z2.cps.toList) else decide (i < j) := by
    show Ob.lexAt _ _ false 0 2 = _
    rw [Ob.lexAt_succ, Ob.lexAt_succ, Ob.lexAt_zero]
    by_cases h1 : i = j
    · subst h1
      by_cases h2 : z = z2
      · subst h2
        simp [List.lt_irrefl]
      · simp [h2]
    · simp [h1]
  rw [e]
  exact q
theorem o_ltP {X : Cx} {I : Inf} (hu : X.A.units < cLine) : OpR X (compareOp .Lt) (rdOp ⟨X.K, I.G, I.fl, I.X, I.ex⟩ opLtP) := by
  intro pins s σ H v u ov ou Q In rv ru hh
  obtain ⟨x, y, S, M, sim, rx, ry, p⟩ := hh
  unfold opLtP at p
  split at p
  · cases rx with
    | tup h1 r1 =>
    cases ry with
    | tup h2 r2 =>
    cases r1 with
    | cons ra r1 =>
    cases ra
    cases r1 with
    | cons rb r1 =>
    cases rb
    cases r1
    cases r2 with
    | cons sa r2 =>
    cases sa
    cases r2 with
    | cons sb r2 =>
    cases sb
    cases r2
    exact op_ltP hu pins s σ H _ _ ov ou Q In rv ru ⟨_, _, _, _, _, _, rfl, rfl, ex_t mask_ex h1, ex_t mask_ex h2, p.here sim (.bl _)⟩
  · exact p.elim
/-! ### a comprehension of two clauses, set to a name; as a cell -/
noncomputable def dComp2C (own : List Nat) (g : GT) (i : DI) (t : DT) (d1 : DI) (g1 : GT) (t1 : DT) (el : DE) (k1 : List Nat) : DE := fun e S => (i e S).bind fun p S1 => (compL2 g t d1 g1 t1 el k1 p.2 (uns own e) p.1 S1).bind fun ws S2 => if ws.length ≤ 16777216 then .ok (.c S2.length) (S2 ++ [.lst ws]) else .bad
section
variable {J : Jn} {X : Cx} {I : Inf} {w : WX} {F Fi : FnTab} {k : Nat} {tg iter tg1 iter1 elt : Expr} {ifs ifs1 : List Expr} {el : DE} {ta t1 : DT} {pos spos py : Pos} {di d1 : DI} {g g1 : GT} {vs vs1 : List Nat} {scope : Scope} {own : List (Str × Nat)}
theorem ss_comp2 {i : Nat} {y : Str} (t : Cok J X w F Fi k) (hi : PI X tg iter (rdI I w di)) (hv : ∀ i ∈ vs, i ∈ own.map (·.2)) (hv1 : ∀ i ∈ vs1, i ∈ own.map (·.2)) (ok : BlkOk X.N X.env.scope scope own)
    (hg : ∀ (s : Shared) (H : Hp) (C : Addr) (cl : List (Str × Addr)) (fp : List Addr), PG (X.blk s H scope (compEnvC scope cl C X.env) fp) tg (rdG I g vs)) (ht : ∀ (s : Shared) (H : Hp) (C : Addr) (cl : List (Str × Addr)) (fp : List Addr), PTs (X.blk s H scope (compEnvC scope cl C X.env) fp) ifs (rdT I w0 ta))
    (hi1 : ∀ (s : Shared) (H : Hp) (C : Addr) (cl : List (Str × Addr)) (fp : List Addr), PI (X.blk s H scope (compEnvC scope cl C X.env) fp) tg1 iter1 (rdI I w0 d1))
    (hg1 : ∀ (s : Shared) (H : Hp) (C : Addr) (cl : List (Str × Addr)) (fp : List Addr), PG (X.blk s H scope (compEnvC scope cl C X.env) fp) tg1 (rdG I g1 vs1)) (ht1 : ∀ (s : Shared) (H : Hp) (C : Addr) (cl : List (Str × Addr)) (fp : List Addr), PTs (X.blk s H scope (compEnvC scope cl C X.env) fp) ifs1 (rdT I w0 t1))
    (he : ∀ (s : Shared) (H : Hp) (C : Addr) (cl : List (Str × Addr)) (fp : List Addr), PE (X.blk s H scope (compEnvC scope cl C X.env) fp) elt (rdE I w0 el))
    (hy : X.N[i]? = some y := by rfl) (hyl : X.env.scope.names.lookup y = some .local := by rfl)
    (hsw : swapsWith (.ListComp elt [⟨tg, iter, ifs, 0⟩, ⟨tg1, iter1, ifs1, 0⟩] scope pos) (some (.Name y py)) spos.line X.env = pure true := by exact sw_true rfl rfl rfl (by decide +kernel)) (hs : ∀ x, foldedSetIterable iter X.env x = pure x := by intro _; rfl) (hs1 : ∀ env x, foldedSetIterable iter1 env x = pure x := by intro _ _; rfl) :
    PS X (.Assign [.Name y py] (.ListComp elt [⟨tg, iter, ifs, 0⟩, ⟨tg1, iter1, ifs1, 0⟩] scope pos) spos) (rdS I w (sAsg (dComp2 (own.map (·.2)) g di ta d1 g1 t1 el vs1) (gNm i))) :=
  PS_imp (ps_setLc2 t.calm t.nd hy hyl hsw hi ok hv1 (fun s H C cl fp => PG_aside (hg s H C cl fp)) (fun s H C cl fp => PTs_aside (ht s H C cl fp)) (fun s H C cl fp => PI_aside (hi1 s H C cl fp)) (fun s H C cl fp => PG_aside (hg1 s H C cl fp)) (fun s H C cl fp => PTs_aside (ht1 s H C cl fp)) (fun s H C cl fp => PE_aside (he s H C cl fp)) hs hs1) fun D σ H q => by
    refine comp2_rd .plain hv ?_
    exact rdS_one (f := fun e x S1 => .nx (e.set i (some x)) S1) q fun x v e S M H s sl r p => p _ H M Le.refl s (sl.set r)
theorem ss_comp2C {i : Nat} {y : Str} (t : Cok J X w F Fi k) (hi : PI X tg iter (rdI I w di)) (hv : ∀ i ∈ vs, i ∈ own.map (·.2)) (hv1 : ∀ i ∈ vs1, i ∈ own.map (·.2)) (ok : BlkOk X.N X.env.scope scope own)
    (hg : ∀ (s : Shared) (H : Hp) (C : Addr) (cl : List (Str × Addr)) (fp : List Addr), PG (X.blk s H scope (compEnvC scope cl C X.env) fp) tg (rdG I g vs)) (ht : ∀ (s : Shared) (H : Hp) (C : Addr) (cl : List (Str × Addr)) (fp : List Addr), PTs (X.blk s H scope (compEnvC scope cl C X.env) fp) ifs (rdT I w0 ta))
    (hi1 : ∀ (s : Shared) (H : Hp) (C : Addr) (cl : List (Str × Addr)) (fp : List Addr), PI (X.blk s H scope (compEnvC scope cl C X.env) fp) tg1 iter1 (rdI I w0 d1))
    (hg1 : ∀ (s : Shared) (H : Hp) (C : Addr) (cl : List (Str × Addr)) (fp : List Addr), PG (X.blk s H scope (compEnvC scope cl C X.env) fp) tg1 (rdG I g1 vs1)) (ht1 : ∀ (s : Shared) (H : Hp) (C : Addr) (cl : List (Str × Addr)) (fp : List Addr), PTs (X.blk s H scope (compEnvC scope cl C X.env) fp) ifs1 (rdT I w0 t1))
    (he : ∀ (s : Shared) (H : Hp) (C : Addr) (cl : List (Str × Addr)) (fp : List Addr), PE (X.blk s H scope (compEnvC scope cl C X.env) fp) elt (rdE I w0 el))
    (hy : X.N[i]? = some y := by rfl) (hyl : X.env.scope.names.lookup y = some .local := by rfl)
    (hsw : swapsWith (.ListComp elt [⟨tg, iter, ifs, 0⟩, ⟨tg1, iter1, ifs1, 0⟩] scope pos) (some (.Name y py)) spos.line X.env = pure true := by exact sw_true rfl rfl rfl (by decide +kernel)) (hs : ∀ x, foldedSetIterable iter X.env x = pure x := by intro _; rfl) (hs1 : ∀ env x, foldedSetIterable iter1 env x = pure x := by intro _ _; rfl) :
    PS X (.Assign [.Name y py] (.ListComp elt [⟨tg, iter, ifs, 0⟩, ⟨tg1, iter1, ifs1, 0⟩] scope pos) spos) (rdS I w (sAsg (dComp2C (own.map (·.2)) g di ta d1 g1 t1 el vs1) (gNm i))) :=
  PS_imp (ps_setLc2 t.calm t.nd hy hyl hsw hi ok hv1 (fun s H C cl fp => PG_aside (hg s H C cl fp)) (fun s H C cl fp => PTs_aside (ht s H C cl fp)) (fun s H C cl fp => PI_aside (hi1 s H C cl fp)) (fun s H C cl fp => PG_aside (hg1 s H C cl fp)) (fun s H C cl fp => PTs_aside (ht1 s H C cl fp)) (fun s H C cl fp => PE_aside (he s H C cl fp)) hs hs1) fun D σ H q => by
    refine comp2_rd .cell hv ?_
    exact rdS_one (f := fun e x S1 => .nx (e.set i (some x)) S1) q fun x v e S M H s sl r p => p _ H M Le.refl s (sl.set r)
end
end Py

/-! Py20: sorted(xs, key=f), f a def of the program. -/
namespace SK
open PySem PySem.Calls PyProof.Rows PySem.W
def hush (h : Heap) (c : Addr) : Heap := h.update c fun o => { o with data := .freed }
theorem hush_at (h : Heap) (c : Addr) : (hush h c).get? c = none := by
  obtain ⟨objs, l⟩ := h
  unfold hush Heap.update Heap.get?
  simp only [Array.getElem?_modify]
  cases objs[c]? <;> rfl
theorem hush_ne (h : Heap) {c b : Addr} (hb : b ≠ c) : (hush h c).get? b = h.get? b := Heap.get?_update_ne _ _ _ _ hb
theorem hush_keeps (h : Heap) (a c : Addr) : KeepsBut a (hush h c) h := fun b o _ e => by
  by_cases hb : b = c
  · subst hb
    rw [hush_at] at e
    cases e
  · rw [hush_ne h hb] at e
    exact e
/-- all stands that is neither at a nor at c -/
def Kb2 (a c : Addr) (h h' : Heap) : Prop := ∀ b o, b ≠ a → b ≠ c → h.get? b = some o → h'.get? b = some o
theorem Kb2.of {a c : Addr} {h h' : Heap} (k : KeepsBut a (hush h c) h') : Kb2 a c h h' := fun b o ha hc e => k b o ha (by rw [hush_ne h hc]; exact e)
theorem each_get {α β : Type} {R : α → β → Prop} : ∀ {as : List α} {bs : List β}, EachIs R as bs → ∀ (i : Nat) (a : α) (b : β), as[i]? = some a → bs[i]? = some b → R a b
  | _, _, .nil, i, a, b, e, _ => by simp at e
  | _, _, .cons r t, 0, a, b, e, f => by simp at e f; subst e f; exact r
  | _, _, .cons r t, i + 1, a, b, e, f => each_get t i a b (by simpa using e) (by simpa using f)
section
variable {prog : Program} {w : World} {A : Around} {E : Value → Shared → Prop} {s : Shared} {a kS : Addr} {vs : List Value} {e1 : Nat} {P : PySem.Fin → Shared → Prop} {ks : List Int} {PI : Nat → Shared → Prop}
theorem all_ints : AllAlike (ks.map PyData.int) := fun d hd d' hd' => by
  obtain ⟨i, _, rfl⟩ := List.mem_map.mp hd
  obtain ⟨j, _, rfl⟩ := List.mem_map.mp hd'
  rfl
theorem ints_sort : Sortable (ks.map PyData.int) := .inr fun d hd => by
  obtain ⟨i, _, rfl⟩ := List.mem_map.mp hd
  exact ⟨(by intro z; cases z), (by intro xs z; cases z)⟩
theorem key_rest {f : Value} (hka : kS ≠ a) (nk : s.heap.get? kS = some (seqObj "list" #[] 0)) (na : s.heap.get? a = some (seqObj "list" #[] e1)) (hlen : ks.length = vs.length) (hZ : vs.length ≤ sizeLine) (hu : A.units + 1 < cLine) (p0 : PI 0 s)
    (pw : ∀ i s' h', PI i s' → Kb2 a kS s'.heap h' → PI i { s' with heap := h' })
    (turn : ∀ (i : Nat) (v : Value) (k : Int), vs[i]? = some v → ks[i]? = some k → ∀ s', PI i s' → (∃ o, s'.heap.get? a = some o) → (∃ o, s'.heap.get? kS = some o) → wpAny (model prog w) A (call f [v]) (fun u s2 => (∃ t, u = .int k t) ∧ PI (i + 1) s2 ∧ ∀ c o, (c = a ∨ c = kS) → s'.heap.get? c = some o → s2.heap.get? c = some o) (fun _ _ => False) s')
    (h : ∀ s' h' tk out c, PI vs.length s' → Kb2 a kS s'.heap h' → h'.get? a = some (seqObj "list" (List.toArray out) c) → KeyedOut false (ks.map PyData.int) vs out → P (.done (.ret .none)) { s' with heap := h', toks := tk }) :
    wpAny (model prog w) A (ksk_rest a f false vs.toArray e1 (.ref kS)) P E s := by
  unfold ksk_rest
  refine wpAny_bind (wpAny_rule ?_)
  first
    | rw [List.forIn_toArray]
    | (rw [← Array.forIn_toList]; simp only [List.toList_toArray])
  let G : Nat → Shared → Prop := fun i s' => ∃ kA e, PI i s' ∧ s'.heap.get? kS = some (seqObj "list" kA e) ∧ s'.heap.get? a = some (seqObj "list" #[] e1) ∧ EachIs (fun v k => ∃ t, v = Value.int k t) kA.toList (ks.take i)
  refine wpAny_bind (ksk_fold G vs 0 s ⟨#[], 0, p0, nk, na, by rw [List.take_zero]; exact EachIs.nil⟩ ?go ?fin)
  case go =>
    rintro j x s' hx ⟨kA, e, hp, nk', na', hk⟩
    simp only [Nat.zero_add] at hp hk ⊢
    have hj : j < vs.length := (List.getElem?_eq_some_iff.mp hx).1
    obtain ⟨k, hkj⟩ : ∃ k, ks[j]? = some k := ⟨_, List.getElem?_eq_getElem (by omega)⟩
    have hz : kA.size ≤ sizeLine := by
      have h1 := hk.length
      rw [Array.length_toList, List.length_take] at h1
      omega
    refine wpAny_bind (wpAny_attempt (wpAny_mono (turn j x k hx hkj s' hp ⟨_, na'⟩ ⟨_, nk'⟩) (fun v s2 hv => ?_) fun _ _ z => z.elim))
    obtain ⟨⟨t, rfl⟩, hp2, hc2⟩ := hv
    have nk2 := hc2 kS _ (.inr rfl) nk'
    have na2 := hc2 a _ (.inl rfl) na'
    try dsimp only
    refine wpAny_bind (listUpdate_at nk2 rfl ?_ hz (by rw [Array.size_push]; exact Nat.succ_le_succ hz))
    have sb := Heap.SameBut.update s2.heap kS (Obj.mapSeq (·.push (Value.int k t)))
    obtain ⟨c2, hc3⟩ : ∃ c2, (s2.heap.update kS (Obj.mapSeq (·.push (Value.int k t)))).get? kS = some (seqObj "list" (kA.push (Value.int k t)) c2) := ⟨_, get?_update_seq nk2 _⟩
    refine wpAny_pure ⟨rfl, kA.push (Value.int k t), c2, pw _ _ _ hp2 fun b o _ hb q => (sb.2 b hb).trans q, hc3, (sb.2 a hka.symm).trans na2, ?_⟩
    have ek : ks.take (j + 1) = ks.take j ++ [k] := by rw [List.take_add_one, hkj]; rfl
    have ea : (kA.push (Value.int k t)).toList = kA.toList ++ [Value.int k t] := by simp
    rw [ea, ek]
    exact each_snoc (R := fun v k => ∃ t, v = Value.int k t) ⟨t, rfl⟩ hk
  case fin =>
    rintro s' ⟨kA, e, hp, nk', na', hk⟩
    simp only [Nat.zero_add] at hp hk
    have e3 : ks.take vs.length = ks := List.take_of_length_le (by omega)
    rw [e3] at hk
    have hsz : kA.size = vs.length := by
      have h1 := hk.length
      rw [Array.length_toList] at h1
      omega
    have hr : EachIs (fun v k => ∃ as, Reads s'.heap v k as) kA.toList (ks.map PyData.int) := by
      refine each_map (R := fun v d => ∃ as, Reads s'.heap v d as) PyData.int (hk.mono fun v k q => ?_)
      obtain ⟨t, rfl⟩ := q
      exact ⟨[], .int k t⟩
    try dsimp only
    refine wpAny_bind (listItems_at nk' rfl ?_)
    refine keyH_end (κ := dataKind s'.heap (ks.map PyData.int)) (h₁ := hush s'.heap kS) (hush_keeps _ _ _) (hush_at _ _) nk' na' hka (SortsAt.data hr all_ints ints_sort fun d hd => ?_) hsz hZ fun h3 tk c k3 n3 => ?_
    · obtain ⟨i, _, rfl⟩ := List.mem_map.mp hd
      have : (PyData.int i).depth = 0 := by simp [PyData.depth]
      omega
    · exact h s' h3 tk _ c hp (Kb2.of k3) n3 ⟨s'.heap, kA.toList, all_ints, rfl, hr⟩
theorem sorted_key {l : Addr} {f : Addr} {PK : Addr → Addr → Nat → Shared → Prop} {Q : Value → Shared → Prop} (hl : s.heap.IsList l vs.toArray) (hlen : ks.length = vs.length) (hZ : vs.length ≤ sizeLine) (hu : A.units + 3 < cLine)
    (p0 : ∀ a kS h', s.heap.objs.size ≤ a → s.heap.objs.size ≤ kS → (∀ b o, s.heap.get? b = some o → h'.get? b = some o) → PK a kS 0 { s with heap := h' })
    (pw : ∀ a kS i s' h', PK a kS i s' → Kb2 a kS s'.heap h' → PK a kS i { s' with heap := h' })
    (turn : ∀ a kS (i : Nat) (v : Value) (k : Int), vs[i]? = some v → ks[i]? = some k → ∀ s', PK a kS i s' → (∃ o, s'.heap.get? a = some o) → (∃ o, s'.heap.get? kS = some o) →
      wpAny (model prog w) A.in1.in1 (call (.ref f) [v]) (fun u s2 => (∃ t, u = .int k t) ∧ PK a kS (i + 1) s2 ∧ ∀ c o, (c = a ∨ c = kS) → s'.heap.get? c = some o → s2.heap.get? c = some o) (fun _ _ => False) s')
    (h : ∀ a kS s' h' tk out c, PK a kS vs.length s' → Kb2 a kS s'.heap h' → h'.get? a = some (seqObj "list" (List.toArray out) c) → KeyedOut false (ks.map PyData.int) vs out → Q (.ref a) { s' with heap := h', toks := tk }) :
    wpAny (model prog w) A (call (.builtin "sorted") [.ref l] [(Str.ofString "key", .ref f)]) Q E s := by
  refine sorted_of_sort hl hZ (ksk_s1 _ _) (fun _ => ksk_l1 _ _) fun E' => ?_
  rw [ksk_t1]
  generalize hA : s.heap.objs.size + 1 = a0
  have hc : (copyHeap s.heap vs).get? a0 = some (seqObj "list" vs.toArray 0) := by rw [← hA]; exact copyHeap_at s.heap vs
  have hlt := Heap.lt_size hc
  have up : ∀ b o, s.heap.get? b = some o → b ≠ a0 := fun b o e => by
    rw [← hA]
    exact Nat.ne_of_lt (Nat.lt_succ_of_lt (Heap.lt_size e))
  unfold ksk_tree
  refine wpAny_bind (listItems_at hc rfl ?_)
  refine wpAny_bind (listUpdate_at hc rfl ?_ (by simpa using hZ) (Nat.zero_le _))
  obtain ⟨e1, ho1⟩ : ∃ e1, ((copyHeap s.heap vs).update a0 (Obj.mapSeq fun _ => (#[] : Array Value))).get? a0 = some (seqObj "list" #[] e1) := ⟨_, get?_update_seq hc fun _ => #[]⟩
  refine wpAny_bind (seqEpoch_at ho1 rfl ?_)
  refine wpAny_bind (wpAny_newTuple ?_ hZ)
  refine wpAny_bind (wpAny_newList ?_ (Nat.zero_le _))
  refine wpAny_holding ?_
  generalize hK : (((copyHeap s.heap vs).update a0 (Obj.mapSeq fun _ => (#[] : Array Value))).push (seqObj "tuple" vs.toArray 0)).objs.size = kS
  have hK2 : kS = (copyHeap s.heap vs).objs.size + 1 := by rw [← hK, size_push', Heap.size_update]
  have nk : ((((copyHeap s.heap vs).update a0 (Obj.mapSeq fun _ => (#[] : Array Value))).push (seqObj "tuple" vs.toArray 0)).push (seqObj "list" #[] 0)).get? kS = some (seqObj "list" #[] 0) := by
    rw [← hK]
    exact Heap.get?_push_size _ rfl
  have na : ((((copyHeap s.heap vs).update a0 (Obj.mapSeq fun _ => (#[] : Array Value))).push (seqObj "tuple" vs.toArray 0)).push (seqObj "list" #[] 0)).get? a0 = some (seqObj "list" #[] e1) :=
    Heap.get?_push_of_some _ (Heap.get?_push_of_some _ ho1)
  have kp : ∀ b o, s.heap.get? b = some o → ((((copyHeap s.heap vs).update a0 (Obj.mapSeq fun _ => (#[] : Array Value))).push (seqObj "tuple" vs.toArray 0)).push (seqObj "list" #[] 0)).get? b = some o := fun b o e =>
    Heap.get?_push_of_some _ (Heap.get?_push_of_some _ ((Heap.get?_update_ne _ _ _ _ (up b o e)).trans (copyHeap_old e)))
  have hsl : s.heap.objs.size ≤ a0 := by rw [← hA]; exact Nat.le_succ _
  have hka : kS ≠ a0 := by rw [hK2]; exact Nat.ne_of_gt (Nat.lt_succ_of_lt hlt)
  have hsk : s.heap.objs.size ≤ kS := by rw [hK2]; exact Nat.le_of_lt (Nat.lt_of_le_of_lt hsl (Nat.lt_succ_of_lt hlt))
  refine key_rest (s := { s with heap := ((((copyHeap s.heap vs).update a0 (Obj.mapSeq fun _ => (#[] : Array Value))).push (seqObj "tuple" vs.toArray 0)).push (seqObj "list" #[] 0)) }) (PI := PK a0 kS) hka nk na hlen hZ ?_ (p0 a0 kS _ hsl hsk kp) (pw a0 kS) (turn a0 kS) ?_
  · show A.units + 1 + 1 + 1 < cLine
    omega
  · intro s' h' tk out c hp hb hg ko
    exact ⟨rfl, h a0 kS s' h' tk out c hp hb hg ko⟩
end
end SK
namespace Py
open PySem PySem.Spec PyProof.Rows L2
def keysK (Fi : FnTab) (f : Nat) : List D → Sto → Option (List Int × Sto)
  | [], S => some ([], S)
  | x :: xs, S => match Fi f [.d x] S with
    | .ok (.d (.int i)) S' => match keysK Fi f xs S' with
      | some (ks, S2) => some (i :: ks, S2)
      | none => none
    | _ => none
def sortByK (xs : List D) (ks : List Int) : List D := ((xs.zip ks).mergeSort fun p q => decide (p.2 ≤ q.2)).map (·.1)
/-- sorted(x, key=f) -/
def sortK (Fi : FnTab) (f : Nat) (x : W) (S : Sto) : R W := match lsOf x S with
  | some ws => match plainL ws with
    | some xs => match keysK Fi f xs S with
      | some (ks, S') => if xs.length ≤ sizeLine then .ok (.d (.lst (sortByK xs ks))) S' else .bad
      | none => .bad
    | none => .bad
  | none => .bad
def dSortK (Fi : FnTab) (f : Nat) (a : DE) : DE := fun e S => (a e S).bind fun x S1 => (sortK Fi f x S1).ne
/-- the stores between the keys -/
def stK (Fi : FnTab) (f : Nat) : List D → Sto → Nat → Sto
  | x :: xs, S, i + 1 => match Fi f [.d x] S with
    | .ok _ S' => stK Fi f xs S' i
    | _ => S
  | _, S, _ => S
theorem stK_zero {Fi : FnTab} {f : Nat} {xs : List D} {S : Sto} : stK Fi f xs S 0 = S := by cases xs <;> rfl
theorem keysK_at {Fi : FnTab} {f : Nat} : ∀ {xs : List D} {S S' : Sto} {ks : List Int}, keysK Fi f xs S = some (ks, S') → ks.length = xs.length ∧ stK Fi f xs S xs.length = S' ∧
    ∀ i x, xs[i]? = some x → ∃ k, ks[i]? = some k ∧ Fi f [.d x] (stK Fi f xs S i) = .ok (.d (.int k)) (stK Fi f xs S (i + 1))
  | [], S, S', ks, h => by
    cases h
    exact ⟨rfl, rfl, fun i x e => by simp at e⟩
  | y :: ys, S, S', ks, h => by
    rw [keysK] at h
    split at h
    · rename_i k S1 e1
      split at h
      · rename_i ks2 S2 e2
        cases h
        obtain ⟨a, b, c⟩ := keysK_at e2
        refine ⟨by simp [a], ?_, ?_⟩
        · show (match Fi f [.d y] S with | .ok _ S' => stK Fi f ys S' ys.length | _ => S) = _
          rw [e1]
          exact b
        · rintro (_ | i) x e
          · cases e
            refine ⟨k, rfl, ?_⟩
            rw [stK_zero]
            show _ = R.ok _ (match Fi f [.d y] S with | .ok _ S' => stK Fi f ys S' 0 | _ => S)
            rw [e1]
            show _ = R.ok _ (stK Fi f ys S1 0)
            rw [stK_zero]
          · obtain ⟨k2, g1, g2⟩ := c i x e
            refine ⟨k2, g1, ?_⟩
            have hs : ∀ j, stK Fi f (y :: ys) S (j + 1) = stK Fi f ys S1 j := fun j => by
              show (match Fi f [.d y] S with | .ok _ S' => stK Fi f ys S' j | _ => S) = _
              rw [e1]
            rw [hs, hs]
            exact g2
      · cases h
    · cases h
theorem Inv_trackIn {X : Cx} {pins : List (Addr × Obj)} {σ : L2.St} {H : Hp} {s : Shared} {h' : Heap} {t' : Nat} {ch : List Addr} {T : Addr} {ob : HO} (I : Inv X pins σ H s) (k : ∀ b o, b ∉ ch → s.heap.get? b = some o → h'.get? b = some o) (hf : ∀ b ∈ ch, FpOk X pins H b) (hT : T ∈ ch)
    (new : ObjOk X.prog X.w (upd H T ob) h' T ob) : Inv X pins σ (upd H T ob) { s with heap := h', toks := t' } := by
  have hn : H T = none := (hf T hT).1
  have off : ∀ c u, H c = some u → c ∉ ch ∧ c ≠ T := fun c u e => by
    have hc : c ∉ ch := fun z => by
      have := (hf c z).1
      rw [e] at this
      cases this
    exact ⟨hc, fun z => hc (z ▸ hT)⟩
  have un : Un (frs X.stack) ch H (upd H T ob) s.heap h' :=
    { keep := fun b o e _ _ hc => k b o hc e
      slot := fun b o e _ _ hc => ⟨o.slots, k b o hc e⟩
      free := fun b o _ e hc => by
        have hb : b ≠ T := fun z => hc (by rw [z]; exact hT)
        rw [upd_ne hb]
        exact e
      there := fun b o e hc => ⟨o, k b o hc e⟩
      tups := fun b xs e => by rw [upd_ne (off b _ e).2]; exact e
      frzs := fun b o u e => by rw [upd_ne (off b _ e).2]; exact e
      tbls := fun b ps e => ⟨#[], by rw [upd_ne (off b _ e).2, e]; simp⟩ }
  refine I.call (g' := s.gens) (d' := s.drawn) un (fun b u e => ?_) I.bare fun b hb => ⟨(hf b hb).2.2.2.1, (hf b hb).2.1, (hf b hb).2.2.2.2.1, (hf b hb).2.2.2.2.2⟩
  by_cases hb : b = T
  · subst hb
    rw [upd_same] at e
    cases e
    exact new
  · rw [upd_ne hb] at e
    refine (I.hok b u e).stay (fun c v hc q => ?_) (fun c q => ?_) fun c xs q => ?_
    · refine k c v ?_ q
      rcases hc with z | z
      · rw [z]; exact (off b u e).1
      · exact (off c _ z).1
    · rw [upd_ne (off c _ q).2]; exact q
    · rw [upd_ne (off c _ q).2]; exact q
theorem FpOk_of {X : Cx} {pins : List (Addr × Obj)} {H H' : Hp} {b : Addr} (h : FpOk X pins H b) (n : H' b = none) : FpOk X pins H' b := ⟨n, h.2⟩
theorem each_zip {α β γ : Type} {R : α → β → Prop} {T : β → γ → Prop} {R' : α → β × γ → Prop} : ∀ {as : List α} {bs : List β} {cs : List γ}, bs.length = cs.length → Paired (fun b a => R a b) bs as → (∀ a b c, R a b → R' a (b, c)) → PySem.W.EachIs R' as (bs.zip cs)
  | _, _, [], e, .nil, _ => .nil
  | _, _, c :: cs, e, .cons r t, h => .cons (h _ _ _ r) (each_zip (T := T) (by simpa using e) t h)
  | _, _, [], e, .cons _ _, _ => by simp at e
  | _, _, _ :: _, e, .nil, _ => by simp at e
theorem each_split {I : Inf} {H : Hp} : ∀ {out : List Value} {bs : List ((D × V) × Int)}, PySem.W.EachIs (fun u b => RelV b.1.2 u ∧ Rep I H b.1.1 b.1.2) out bs → Vals (bs.map fun b => b.1.2) out ∧ Reps I H (bs.map fun b => b.1.1) (bs.map fun b => b.1.2)
  | _, _, .nil => ⟨.nil, .nil⟩
  | _, _, .cons r t => ⟨.cons r.1 (each_split t).1, .cons r.2 (each_split t).2⟩
theorem reps_zip {I : Inf} {H : Hp} {its : List Value} : ∀ {xs : List D} {vs : List V} {its : List Value}, Reps I H xs vs → Vals vs its → Paired (fun (b : D × V) a => RelV b.2 a ∧ Rep I H b.1 b.2) (xs.zip vs) its
  | _, _, _, .nil, .nil => .nil
  | _, _, _, .cons r t, .cons q u => .cons ⟨q, r⟩ (reps_zip (its := its) t u)
theorem zip3 {α β γ : Type} : ∀ {xs : List α} {vs : List β} {ks : List γ}, vs.length = xs.length → xs.zip ks = ((xs.zip vs).zip ks).map fun b => (b.1.1, b.2)
  | [], _, _, _ => by simp
  | _ :: _, [], _, e => by simp at e
  | _ :: _, _ :: _, [], _ => by simp
  | x :: xs, v :: vs, k :: ks, e => by
    rw [List.zip_cons_cons, List.zip_cons_cons, List.zip_cons_cons, List.map_cons, zip3 (xs := xs) (vs := vs) (ks := ks) (by simpa using e)]
theorem valsV : ∀ {vs : List V} {us : List Value} {i : Nat} {u : Value}, Vals vs us → us[i]? = some u → ∃ v, vs[i]? = some v ∧ RelV v u
  | _, _, _, _, .nil, e => by simp at e
  | _, _, 0, _, .cons r _, e => by simp at e; subst e; exact ⟨_, rfl, r⟩
  | _, _, i + 1, u, .cons _ t, e => by
    obtain ⟨v, h1, h2⟩ := valsV (i := i) (u := u) t (by simpa using e)
    exact ⟨v, by simpa using h1, h2⟩
section
variable {J : Jn} {X : Cx} {w : WX} {F Fi : FnTab} {k : Nat}
def rdSort (I : Inf) (Fi : FnTab) (f : Nat) (fa : Addr) : List V → List V → Hp → VK → Prop := fun vs zs H Q => zs = [.ref fa] ∧ ∃ (x : W) (v : V) (S : Sto) (M : List Addr), vs = [v] ∧ Sim I S M H ∧ RepW I M (mask S M H) x v ∧ EndR I S M H (RepW I) Q E0 (sortK Fi f x S)
theorem c_sortK (t : Cok J X w F Fi k) {f : Nat} {x : Str} {fa : Addr} (h : J.sg.nm f = some (x, 1)) (hx : X.mg x = some (.ref fa)) : CallRK X (.builtin "sorted") [Str.ofString "key"] (rdSort (J.inf X.K) Fi f fa) := by
  intro pins s σ H vs zs us ws Q In r rz hh
  obtain ⟨rfl, y, v, S, M, rfl, sim, rv, p⟩ := hh
  obtain ⟨w1, rfl, e1⟩ := vals1 rz
  obtain rfl : w1 = Value.ref fa := e1
  obtain ⟨u, rfl, ru⟩ := vals1 r
  unfold sortK at p
  split at p
  · rename_i wl hwl
    split at p
    · rename_i xs hxs
      split at p
      · rename_i ks S' hks
        split at p
        · rename_i hsz
          obtain ⟨a0, vl, rfl, hsq, hrw⟩ := lsOf_at sim rv hwl
          obtain rfl : u = Value.ref a0 := ru
          have hreps := plainL_reps hrw hxs
          obtain ⟨its, rvl, hil, hz⟩ := In.list hsq
          obtain ⟨k1, k2, k3⟩ := keysK_at hks
          have hl1 := hreps.len
          have hl2 := rvl.length
          obtain ⟨fa', fd, ps, g1, g3, g4⟩ := t.lowf f x 1 h
          rw [hx] at g1
          cases g1
          let PK : Addr → Addr → Nat → Shared → Prop := fun a kS i s' => ∃ (H' : Hp) (M' : List Addr), Inv X pins σ H' s' ∧ Le S M H (stK Fi f xs S i) M' H' ∧ Sim (J.inf X.K) (stK Fi f xs S i) M' H' ∧ FpOk X pins H' a ∧ FpOk X pins H' kS
          have hun : X.A.units + 3 < cLine := by
            have := t.room.un
            omega
          refine SK.sorted_key (PK := PK) (vs := its) (ks := ks) hil.isList (by rw [k1, hl1, hl2]) (by rw [← hl2]; exact hz) hun ?_ ?_ ?_ ?_
          · intro a kS h' ha hk kp
            refine ⟨H, M, In.kept (t' := s.toks) kp, ?_, ?_, In.fpOk ha (In.hok.fresh ha), In.fpOk hk (In.hok.fresh hk)⟩
            · rw [stK_zero]; exact Le.refl
            · rw [stK_zero]; exact sim
          · rintro a kS i s' h' ⟨H', M', I', l', sm', f1, f2⟩ kb
            refine ⟨H', M', I'.turnedL (t' := s'.toks) (ch := [a, kS]) (fun b o hb e => kb b o (fun z => hb (by simp [z])) (fun z => hb (by simp [z])) e) (fun b hb => ?_), l', sm', f1, f2⟩
            simp only [List.mem_cons, List.not_mem_nil, or_false] at hb
            rcases hb with rfl | rfl
            · exact f1
            · exact f2
          · rintro a kS i v kk hv hkk s' ⟨H', M', I', l', sm', f1, f2⟩ ⟨oa, ha⟩ ⟨ok, hk⟩
            obtain ⟨uV, hu1, hu2⟩ := valsV rvl hv
            obtain ⟨xi, hx1, hx2⟩ := hreps.getV hu1
            obtain ⟨kk', hk1, hk2⟩ := k3 i xi hx1
            have : kk' = kk := Option.some.inj (hk1.symm.trans hkk)
            subst this
            have hr : Room k X.A.in1.in1 := ⟨t.room.hd, by have := t.room.dp; show X.A.depth + 3 * k + 5 < _; omega, by have := t.room.un; show X.A.units + 1 + 1 + 16 * k + 200 < _; omega⟩
            have r2 : Vals [uV] [v] := .cons hu2 .nil
            have q3 : spOf (J.inf X.K) Fi f 1 [uV] H' (fun v2 H2 => ∃ M2, v2 = V.int kk' ∧ Le (stK Fi f xs S i) M' H' (stK Fi f xs S (i + 1)) M2 H2 ∧ Sim (J.inf X.K) (stK Fi f xs S (i + 1)) M2 H2) E0 := ⟨rfl, [.d xi], _, M', sm', .cons (hx2.mono l'.ex) .nil, by
              rw [hk2]
              intro v2 H2 M2 l2 s2 rv2
              cases rv2
              exact ⟨M2, rfl, l2, s2⟩⟩
            have hlp : [v].length = ps.length := by rw [← r2.length]; exact g3.len _ _ _ _ q3
            have hb := g4 s' [v] I'.kIn (by rw [List.append_nil]; exact hlp)
            rw [List.append_nil] at hb
            refine wpAny_call (codeAny_mono (g3.run X.A.in1.in1 X.stack s' H' ⟨[v], []⟩ _ _ _ E0 hr I'.env0.in1.in1 hb r2 q3) fun r s2 hq => ?_)
            cases r with
            | error e =>
              obtain ⟨_, _, _, _, _, _, _, _, _, _, _, _, z⟩ := hq
              exact z.elim
            | ok fl =>
              cases fl with
              | ret u =>
                obtain ⟨v2, H2, os, bare, un, hok, rv2, M2, rfl, l2, sm2⟩ := hq
                have nof : ∀ b, FpOk X pins H' b → b ∉ frs X.stack := fun b fb z => (List.mem_cons.mp (I'.stkSub b z)).elim fb.2.1 fb.2.2.1
                refine ⟨rv2, ⟨H2, M2, I'.call' os un hok bare (fun b z => absurd z (by simp)), l'.trans l2, sm2, FpOk_of f1 (un.free a oa ha f1.1 (by simp)), FpOk_of f2 (un.free kS ok hk f2.1 (by simp))⟩, ?_⟩
                intro c o hc e
                rcases hc with rfl | rfl
                · exact un.keep c o e f1.1 (nof c f1) (by simp)
                · exact un.keep c o e f2.1 (nof c f2) (by simp)
              | next => exact False.elim hq
              | brk => exact False.elim hq
              | cont => exact False.elim hq
          · rintro a kS s' h' tk out c ⟨H', M', I', l', sm', f1, f2⟩ kb hg ko
            have hlen1 : vl.length = xs.length := hl1.symm
            have hlen2 : ks.length = (xs.zip vl).length := by rw [List.length_zip, hlen1, Nat.min_self, k1]
            have each0 : PySem.W.EachIs (fun u (b : (D × V) × Int) => RelV b.1.2 u ∧ Rep (J.inf X.K) (mask S M H) b.1.1 b.1.2) its ((xs.zip vl).zip ks) :=
              each_zip (R := fun u (b : D × V) => RelV b.2 u ∧ Rep (J.inf X.K) (mask S M H) b.1 b.2) (T := fun _ _ => True) hlen2.symm (reps_zip (its := its) hreps rvl) fun a b c h => h
            have hmapk : ((xs.zip vl).zip ks).map (fun b => PyData.int b.2) = ks.map PyData.int := by
              have : ((xs.zip vl).zip ks).map (fun b => b.2) = ks := by
                rw [show (fun b : (D × V) × Int => b.2) = Prod.snd from rfl, List.map_snd_zip (by omega)]
              rw [← this, List.map_map]
              rw [this]
              rfl
            have ko2 := PySem.W.keyedOut_each (R := fun u (b : (D × V) × Int) => RelV b.1.2 u ∧ Rep (J.inf X.K) (mask S M H) b.1.1 b.1.2) (fun b => PyData.int b.2) (by rw [hmapk]; exact ko) each0
            rw [PySem.W.dataLe_int] at ko2
            obtain ⟨w1, w2⟩ := each_split ko2
            have hsort : sortByK xs ks = (((xs.zip vl).zip ks).mergeSort fun a b => decide (a.2 ≤ b.2)).map fun b => b.1.1 := by
              unfold sortByK
              have hz : xs.zip ks = ((xs.zip vl).zip ks).map fun b => (b.1.1, b.2) := zip3 hlen1
              rw [hz, ← List.map_mergeSort (r := fun a b : (D × V) × Int => decide (a.2 ≤ b.2)) (fun a _ b _ => rfl), List.map_map]
              rfl
            rw [← hsort] at w2
            generalize (((xs.zip vl).zip ks).mergeSort fun a b => decide (a.2 ≤ b.2)).map (fun b => b.1.2) = vs' at w1 w2
            have hvl : vs'.length ≤ sizeLine := by
              rw [← w2.len, hsort, List.length_map, List.length_mergeSort, List.length_zip, List.length_zip]
              omega
            have In3 := Inv_trackIn (t' := tk) (ob := HO.lst vs') I' (h' := h') (ch := [a, kS]) (T := a) (fun b o hb e => kb b o (fun z => hb (by simp [z])) (fun z => hb (by simp [z])) e) (fun b hb => by
              simp only [List.mem_cons, List.not_mem_nil, or_false] at hb
              rcases hb with rfl | rfl
              · exact f1
              · exact f2) (by simp) ⟨hvl, out, c, w1, hg⟩
            refine ⟨.ref a, _, In3, rfl, ?_⟩
            rw [show its.length = xs.length by rw [← hl2, hl1], k2] at l' sm'
            obtain ⟨sm3, l3⟩ := sm'.new (o := HO.lst vs') f1.1
            exact p (.ref a) _ M' (l'.trans l3) sm3 (.lst (mask_new sm' f1.1) (w2.mono ((l'.trans l3).ex)))
        · exact p.elim
      · exact p.elim
    · exact p.elim
  · exact p.elim
theorem sx_sortK {f : Nat} {x nx : Str} {a : Expr} {da : DE} {p p2 pos kp : Pos} (t : Cok J X w F Fi k) (h : J.sg.nm f = some (x, 1)) (hb : J.sg.blt "sorted" = true) (ha : PE X a (rdE (J.inf X.K) w da)) (hg : Gl X "sorted" := by rfl) (hgx : Gl X x := by rfl) (hd : (x == ("__debug__" : Str)) = false := by decide)
    (hs : starEach [a] X.env = (false, eval a X.env) :: starEach [] X.env := by rfl)
    (he : backTo pos (starEach [a] X.env) = (false, eval a X.env) :: backTo pos (starEach [] X.env) := by rfl) (hpl : (backTo pos (starEach [a] X.env)).any (·.1) = false := by rfl)
    (hall : (backToKw pos (keywordEach [⟨some nx, .Name x p2, kp⟩] X.env)).all (·.1.isSome) = true := by rfl) (hnone : (backToKw pos (keywordEach [⟨some nx, .Name x p2, kp⟩] X.env)).any (·.1.isNone) = false := by rfl)
    (hks : (backToKw pos (keywordEach [⟨some nx, .Name x p2, kp⟩] X.env)).filterMap (·.1) = [Str.ofString "key"] := by rfl) :
    PE X (.Call (.Name "sorted" p) [a] [⟨some nx, .Name x p2, kp⟩] pos) (rdE (J.inf X.K) w (dSortK Fi f da)) := by
  obtain ⟨fa, fd, ps, g1, g3, g4⟩ := t.lowf f x 1 h
  refine PE_imp (pe_callBK (c_sortK t h g1) hg (t.glb _ hb) bt_sorted (pa_cons ha pa_nil hs) (pk_cons (pe_glob hgx g1 (v := .ref fa) rfl hd) pk_nil) (by decide) (by decide) he hpl hall hnone hks) fun σ H Q q => ?_
  show rdE (J.inf X.K) w da σ H fun v H1 => rdSort (J.inf X.K) Fi f fa [v] [.ref fa] H1 Q
  exact rd_one (f := fun _ x S1 => (sortK Fi f x S1).ne) q fun y v e S M H s sl r p => ⟨rfl, y, v, S, M, rfl, s, r, p.ne⟩
end
end Py
/-! list(reversed(a list)) -/
namespace LRv
open PySem PySem.Spec PyProof.Rows
section
variable {prog : Program} {w : World} {A : Around} {E : Value → Shared → Prop} {s : Shared}
abbrev RevIt (xs : Array Value) : Nat → Value → Prop := fun i v => xs[xs.size - 1 - i]? = some v
theorem ext_rev {R : Result → Shared → Prop} {it l S : Addr} {xs : Array Value} {res : Value} {c₀ : Nat} (hh : A.handled = none) (hit : s.heap.IsRevIter it l ((xs.size : Int) - 1)) (hl : s.heap.IsList l xs) (n1 : l ≠ it) (n2 : S ≠ it) (n3 : S ≠ l) (hn : xs.size ≤ sizeLine)
    (hS : s.heap.get? S = some { cls := .type "list", data := .seq #[] c₀ })
    (hR : ∀ (h' : Heap) (tk : Nat) (acc : Array Value) (c' : Nat), (∀ b o, b ≠ it → b ≠ S → s.heap.get? b = some o → h'.get? b = some o) → h'.get? S = some { cls := .type "list", dict := none, data := .seq acc c', slots := #[] } →
      ItemsOf (RevIt xs) acc xs.size → R (.ok (.ret res)) { s with heap := h', toks := tk }) :
    wpAny (model prog w) A.in1 (Builtin.List.listExtendWith (.ref S) (.ref it) res)
      (fun fin s' => match fin with | .done f => R (.ok f) s' | .again c' => c'.quiet = true ∧ codeAny (model prog w) A c' R s') (fun e s' => R (.error e) s') s := by
  have W := (Walks.listRev (prog := prog) (w := w) (A := A.in1) hh it l n1 xs).toS
  have nm : S ∉ [it, l] := fun z => by
    simp only [List.mem_cons, List.not_mem_nil, or_false] at z
    exact z.elim n2 n3
  have hT : s.TypeIs (.ref it) "list_reverseiterator" := hit.typeIs
  have ns : Builtin.List.listSameRef (.ref S) (.ref it) = false := by
    simp [Builtin.List.listSameRef, n2]
  unfold Builtin.List.listExtendWith
  refine wpAny_bind (wpAny_typeOf hT ?_)
  have q1 : (Value.type "list_reverseiterator" == Value.type "list") = false := by decide
  have q2 : (Value.type "list_reverseiterator" == Value.type "tuple") = false := by decide
  simp only [ns, q1, q2, Bool.or_false, Bool.false_eq_true, if_false]
  refine wpAny_bind (wpAny_pyIter_revIter hit ?_)
  refine wpAny_bind (wpAny_holding ?_)
  unfold Builtin.List.listLengthHint
  refine wpAny_bind (wpAny_specialOf hT RT.nolen_lri ?_)
  show wpAny _ A.in1 (specialOf (Value.ref it) (Str.ofString "__length_hint__") >>= _) _ _ _
  refine wpAny_bind (wpAny_specialOf hT RT.hint_lri ?_)
  generalize hid : ("list_reverseiterator.__length_hint__" : String) = idh
  wp_delta
  rw [show splitId idh = some ("list_reverseiterator", "__length_hint__") from by subst hid; decide +kernel]
  subst hid
  refine wpAny_bind (wpAny_isInstance (b := true) hT (by rw [isSubtype_type]; kernel_rfl) ?_)
  refine wpAny_pure ?_
  rw [if_neg (by decide)]
  have e0 : (xs.size : Int) - 1 - ((0 : Nat) : Int) = (xs.size : Int) - 1 := by omega
  refine wpAny_pure ⟨plainId_quiet F.plain_extend_loop _, codeAny_extend_loopS W hn _ nm _ xs.size 0 _ _ _ rfl (Nat.zero_le _) ⟨Nat.zero_le _, by rw [e0]; exact hit, hl⟩ hS (ItemsOf.nil _) fun s' acc' c' hm hS' hacc => ?_⟩
  rw [Moved.eq_with hm]
  refine hR s'.heap s'.toks acc' c' (fun b o b1 b2 e => hm.heap b o (fun z => ?_) e) hS' hacc
  simp only [List.mem_cons, List.not_mem_nil, or_false] at z
  exact z.elim b2 b1
theorem init_rev {R : Result → Shared → Prop} {it l S : Addr} {xs : Array Value} (hh : A.handled = none) (hit : s.heap.IsRevIter it l ((xs.size : Int) - 1)) (hl : s.heap.IsList l xs) (n1 : l ≠ it) (n2 : S ≠ it) (n3 : S ≠ l) (hn : xs.size ≤ sizeLine)
    (hS : s.heap.get? S = some { cls := .type "list", data := .seq #[] })
    (hR : ∀ (h' : Heap) (tk : Nat) (acc : Array Value) (c' : Nat), (∀ b o, b ≠ it → b ≠ S → s.heap.get? b = some o → h'.get? b = some o) → h'.get? S = some { cls := .type "list", dict := none, data := .seq acc c', slots := #[] } →
      ItemsOf (RevIt xs) acc xs.size → R (.ok (.ret .none)) { s with heap := h', toks := tk }) :
    wpAny (model prog w) A.in1 (Builtin.«list.__init__» ⟨[.ref S, .ref it], []⟩)
      (fun fin s' => match fin with | .done f => R (.ok f) s' | .again c' => c'.quiet = true ∧ codeAny (model prog w) A c' R s') (fun e s' => R (.error e) s') s := by
  show wpAny _ _ (do let old ← Builtin.List.listItems (.ref S); Builtin.List.listUpdate (.ref S) (fun _ => #[]); letGo old.toList.reverse; Builtin.List.listExtendWith (.ref S) (.ref it) .none) _ _ s
  refine wpAny_bind ?_
  unfold Builtin.List.listItems
  refine wpAny_bind (wpAny_seqItems hS rfl (wpAny_pure ?_))
  show wpAny _ _ (updateSeq S (fun _ => #[]) >>= fun _ => letGo (#[] : Array Value).toList.reverse >>= fun _ => Builtin.List.listExtendWith (.ref S) (.ref it) .none) _ _ s
  refine wpAny_bind (wpAny_updateSeq hS rfl ?_)
  have oth : ∀ b o, b ≠ S → s.heap.get? b = some o → (s.heap.update S (Obj.mapSeq (fun _ => (#[] : Array Value)))).get? b = some o := fun b o hb e => by
    rw [Heap.get?_update_ne _ _ _ _ hb]
    exact e
  refine wpAny_bind (wpAny_letGo ?_)
  refine ext_rev (s := { s with heap := s.heap.update S (Obj.mapSeq (fun _ => (#[] : Array Value))) }) hh (hit.at fun o e => oth it o (Ne.symm n2) e) (hl.at fun o e => oth l o (Ne.symm n3) e) n1 n2 n3 hn (Heap.get?_update_self _ hS rfl) fun h' tk acc c' hk h3 h4 => ?_
  exact hR h' tk acc c' (fun b o b1 b2 e => hk b o b1 b2 (oth b o b2 e)) h3 h4
theorem call_list_rev {it l : Addr} {xs : Array Value} {Q : Value → Shared → Prop} (hh : A.handled = none) (hit : s.heap.IsRevIter it l ((xs.size : Int) - 1)) (hl : s.heap.IsList l xs) (n1 : l ≠ it) (hn : xs.size ≤ sizeLine)
    (hQ : ∀ (h' : Heap) (tk : Nat) (acc : Array Value) (c' : Nat), (∀ b o, b ≠ it → s.heap.get? b = some o → h'.get? b = some o) → h'.get? s.heap.objs.size = some { cls := .type "list", dict := none, data := .seq acc c', slots := #[] } → ItemsOf (RevIt xs) acc xs.size →
      Q (.ref s.heap.objs.size) { s with heap := h', toks := tk }) : wpAny (model prog w) A (call (.type "list") [.ref it]) Q E s := by
  obtain ⟨oi, hoi, _⟩ := id hit
  obtain ⟨ol, hol, _⟩ := id hl
  refine callType_codes (Q₁ := fun obj s₁ => obj = .ref s.heap.objs.size ∧ s₁ = { s with heap := s.heap.push { cls := .type "list", data := .seq #[] } }) F.called_list (F.typeCall_list_1 _) F.entry_list_init
    (code_list_new _ ⟨rfl, rfl⟩) fun obj s₁ h₁ => ?_
  obtain ⟨rfl, rfl⟩ := h₁
  have hS : (s.heap.push { cls := .type "list", data := .seq #[] }).get? s.heap.objs.size = some { cls := .type "list", data := .seq #[] } := Heap.get?_push_size _ rfl
  refine ⟨⟨_, hS, rfl⟩, F.args_list_init_2 _ _, init_rev (A := A.in1) (s := { s with heap := s.heap.push { cls := .type "list", data := .seq #[] } }) hh (hit.at fun o e => Heap.get?_push_of_some _ e) (hl.push _) n1 (Nat.ne_of_gt (Heap.lt_size hoi)) (Nat.ne_of_gt (Heap.lt_size hol)) hn hS fun h' tk acc c' hk h3 h4 => ?_⟩
  exact ⟨rfl, hQ h' tk acc c' (fun b o b1 e => hk b o b1 (Nat.ne_of_lt (Heap.lt_size e)) (Heap.get?_push_of_some _ e)) h3 h4⟩
end
end LRv
namespace Py
open PySem PySem.Spec PyProof.Rows L2
theorem items_rev {its : List Value} {acc : Array Value} (h : ItemsOf (LRv.RevIt its.toArray) acc its.toArray.size) : acc.toList = its.reverse := by
  have hz : its.toArray.size = its.length := List.size_toArray
  have hl : acc.toList.length = its.length := by rw [Array.length_toList, h.1, hz]
  refine List.ext_getElem? fun j => ?_
  by_cases hj : j < its.length
  · have e1 : acc.toList[j]? = some acc.toList[j] := List.getElem?_eq_getElem (by omega)
    have e2 : its.toArray[its.toArray.size - 1 - j]? = some acc.toList[j] := h.2 j _ (by rw [← Array.getElem?_toList]; exact e1)
    rw [e1, List.getElem?_reverse hj, ← e2, hz]
    simp
  · rw [List.getElem?_eq_none (by omega), List.getElem?_eq_none (by rw [List.length_reverse]; omega)]
def listRev (x : W) (S : Sto) : R W := match lsOf x S with
  | some ws => match plainL ws with
    | some xs => .ok (.d (.lst xs.reverse)) S
    | none => .bad
  | none => .bad
def dListRev (a : DE) : DE := fun e S => (a e S).bind fun x S1 => (listRev x S1).ne
section
variable {J : Jn} {X : Cx} {w : WX} {F Fi : FnTab} {k : Nat}
theorem sx_listRev {a : Expr} {da : DE} {p p2 pos pos2 : Pos} (t : Cok J X w F Fi k) (hb : J.sg.blt "list" = true) (hb2 : J.sg.blt "reversed" = true) (ha : PE X a (rdE (J.inf X.K) w da)) (hg : Gl X "list" := by rfl) (hg2 : Gl X "reversed" := by rfl)
    (hs : starEach [a] X.env = (false, eval a X.env) :: starEach [] X.env := by rfl)
    (hs2 : starEach [.Call (.Name "reversed" p2) [a] [] pos2] X.env = (false, eval (.Call (.Name "reversed" p2) [a] [] pos2) X.env) :: starEach [] X.env := by rfl) :
    PE X (.Call (.Name "list" p) [.Call (.Name "reversed" p2) [a] [] pos2] [] pos) (rdE (J.inf X.K) w (dListRev da)) := by
  refine ⟨fun pins s σ H Q I h => ?_⟩
  have h2 : rdE (J.inf X.K) w da σ H fun v H1 => ∃ (y : W) (S : Sto) (M : List Addr), Sim (J.inf X.K) S M H1 ∧ RepW (J.inf X.K) M (mask S M H1) y v ∧ EndR (J.inf X.K) S M H1 (RepW (J.inf X.K)) Q E0 (listRev y S) :=
    rd_one (f := fun _ x S1 => (listRev x S1).ne) h fun y v e S M H s sl r p => ⟨y, S, M, s, r, p.ne⟩
  refine Call_ (ld_blt I hg (t.glb _ hb) boot_list (callWith_type1 (args_cons (Call_ (ld_blt I hg2 (t.glb _ hb2) boot_reversed (callWith_type1 (args_cons (thn (ha.run pins s σ H _ I h2) fun u s1 ⟨v, H1, I1, r1, q1⟩ => args_nil ?_) hs) hs rfl))) hs2) hs2 rfl))
  obtain ⟨y, S, M, sim, rv, q⟩ := q1
  unfold listRev at q
  split at q
  · rename_i ws hws
    split at q
    · rename_i xs hxs
      obtain ⟨a0, vs, rfl, hsq, hrw⟩ := lsOf_at sim rv hws
      obtain rfl : u = Value.ref a0 := r1
      have hreps := plainL_reps hrw hxs
      obtain ⟨its, rvl, p', hz⟩ := I1.list hsq
      have hl := p'.isList
      obtain ⟨ol, hol, _⟩ := id hl
      have hne : a0 ≠ s1.heap.objs.size := Nat.ne_of_lt (Heap.lt_size hol)
      have hn : its.toArray.size ≤ sizeLine := by rw [List.size_toArray, ← rvl.length]; exact hz
      refine call_reversed_list hl (args_nil ?_)
      have k0 : ∀ b o, s1.heap.get? b = some o → (s1.heap.push (revObj a0 ((its.toArray.size : Int) - 1))).get? b = some o := fun b o e => Heap.get?_push_of_some _ e
      have I2 : Inv X pins σ H1 { s1 with heap := s1.heap.push (revObj a0 ((its.toArray.size : Int) - 1)) } := I1.kept (t' := s1.toks) k0
      have fp := I1.fpOk (H' := H1) (b := s1.heap.objs.size) (Nat.le_refl _) (I1.hok.fresh (Nat.le_refl _))
      refine LRv.call_list_rev (s := { s1 with heap := s1.heap.push (revObj a0 ((its.toArray.size : Int) - 1)) }) (I1.ok.hd t.calm) ⟨_, Heap.get?_push_size _ rfl, rfl, rfl⟩ (hl.push _) hne hn fun h' tk acc c' hk hd hi => ?_
      generalize hD : (s1.heap.push (revObj a0 ((its.toArray.size : Int) - 1))).objs.size = D at hd
      have hr := items_rev hi
      have hnew : s1.heap.objs.size ≤ D := by rw [← hD, size_push']; exact Nat.le_succ _
      have hDn : D ≠ s1.heap.objs.size := by rw [← hD, size_push']; exact Nat.ne_of_gt (Nat.lt_succ_self _)
      have hv : Vals vs.reverse acc.toList := by rw [hr]; exact rvl.reverse
      have hvl : vs.reverse.length ≤ sizeLine := by rw [List.length_reverse]; exact hz
      have fD := I2.fpOk (H' := H1) (b := D) (by rw [← hD]; exact Nat.le_refl _) (I1.hok.fresh hnew)
      have f0 : FpOk X pins H1 s1.heap.objs.size := fp
      have In3 := Inv_trackIn (t' := tk) (ob := HO.lst vs.reverse) I2 (h' := h') (ch := [D, s1.heap.objs.size]) (T := D) (fun b o hb e => hk b o (fun z => hb (by simp [z])) e) (fun b hb => by
        simp only [List.mem_cons, List.not_mem_nil, or_false] at hb
        rcases hb with rfl | rfl
        · exact fD
        · exact f0) (by simp) ⟨hvl, acc.toList, c', hv, by rw [Array.toArray_toList]; exact hd⟩
      refine ⟨.ref D, _, In3, rfl, ?_⟩
      obtain ⟨sm3, l3⟩ := sim.new (o := HO.lst vs.reverse) fD.1
      exact q (.ref D) _ M l3 sm3 (.lst (mask_new sim fD.1) (hreps.reverse.mono l3.ex))
    · exact q.elim
  · exact q.elim
theorem s_sortK {a : DE} {e : Env} {S : Sto} {Q : W → Sto → Prop} {f : Nat} : (dSortK Fi f a e S).sat Q = (a e S).sat fun x S1 => (sortK Fi f x S1).sat Q := by
  unfold dSortK
  rw [sat_bind]
  refine sat_cong fun x S1 => ?_
  rw [sat_ne]
theorem s_listRev {a : DE} {e : Env} {S : Sto} {Q : W → Sto → Prop} : (dListRev a e S).sat Q = (a e S).sat fun x S1 => (listRev x S1).sat Q := by
  unfold dListRev
  rw [sat_bind]
  refine sat_cong fun x S1 => ?_
  rw [sat_ne]
theorem keysK_map {S : Sto} {f : Nat} {key : D → Int} : ∀ {xs : List D}, (∀ x ∈ xs, Fi f [.d x] S = .ok (.d (.int (key x))) S) → keysK Fi f xs S = some (xs.map key, S)
  | [], _ => rfl
  | x :: xs, h => by
    rw [keysK, h x (by simp)]
    dsimp only
    rw [keysK_map fun y m => h y (by simp [m])]
    rfl
theorem sortByK_map {key : D → Int} (xs : List D) : sortByK xs (xs.map key) = xs.mergeSort fun x y => decide (key x ≤ key y) := by
  unfold sortByK
  have e : xs.zip (xs.map key) = xs.map fun x => (x, key x) := by
    induction xs with
    | nil => rfl
    | cons x xs ih => rw [List.map_cons, List.zip_cons_cons, ih, List.map_cons]
  rw [e, ← List.map_mergeSort (r := fun x y => decide (key x ≤ key y)) (fun _ _ _ _ => rfl), List.map_map]
  exact List.map_id _
/-- sorted by a key that is told -/
theorem sortK_sat {f : Nat} {xs : List D} {S : Sto} {Q : W → Sto → Prop} (key : D → Int) (h : ∀ x ∈ xs, Fi f [.d x] S = .ok (.d (.int (key x))) S) (hl : xs.length ≤ sizeLine) (hq : Q (.d (.lst (xs.mergeSort fun x y => decide (key x ≤ key y)))) S) : (sortK Fi f (.d (.lst xs)) S).sat Q := by
  unfold sortK
  dsimp only [lsOf]
  rw [plainL_map]
  dsimp only
  rw [keysK_map h]
  dsimp only
  rw [if_pos hl, sortByK_map]
  exact hq
end
end Py
/-! an instance given up -/
namespace Py
open PySem PySem.Spec PyProof.Rows L2
def frzI (c nf : Nat) : W → Sto → R W
  | .c i, S => match S[i]? with
    | some (.ins c' ws) => match plainL ws with
      | some xs => if c' = c ∧ xs.length = nf then .ok (.d (.obj c xs)) (S.set i .dead) else .bad
      | none => .bad
    | _ => .bad
  | _, _ => .bad
def sFrzI (c nf i : Nat) (s : DS) : DS := fun e S => match e[i]? with
  | some (some w) => bindS (frzI c nf w S) e fun w' S' => s (e.set i (some w')) S'
  | _ => .bad
section
variable {J : Jn} {X : Cx} {I : Inf} {w : WX} {F Fi : FnTab} {k : Nat} {st : Stmt} {ds : DS}
theorem frzI_at {c nf : Nat} {S S' : Sto} {M : List Addr} {H : Hp} {u u' : W} {v : V} (hf : (I.fl c).length = nf) (s : Sim I S M H) (r : RepW I M (mask S M H) u v) (e : frzI c nf u S = .ok u' S') :
    Sim I S' M H ∧ Le S M H S' M H ∧ RepW I M (mask S' M H) u' v := by
  cases u with
  | d x => cases e
  | e c x => cases e
  | c i =>
    dsimp only [frzI] at e
    split at e
    · rename_i c' ws hc
      split at e
      · rename_i xs hx
        split at e
        · rename_i hn
          obtain ⟨rfl, hn⟩ := hn
          cases e
          obtain ⟨a, ea, rfl⟩ := r
          obtain ⟨C, dx, vs, hg, ho, hl, rw'⟩ := s.cell i _ a hc ea
          obtain ⟨s', l⟩ := s.kill hc
          have hr := plainL_rep rw' hx
          refine ⟨s', l, Rep.obj (dx := dx) hg ?_ ?_ (hr.mono l.ex)⟩
          · rw [mask_dead s hc ea]
            exact ho
          · rw [hf, ← hn, hr.len]
        · cases e
      · cases e
    · cases e
theorem frzI_ne (c nf : Nat) (u : W) (S : Sto) : (∃ u' S', frzI c nf u S = .ok u' S') ∨ frzI c nf u S = .bad := by
  unfold frzI
  repeat' split
  all_goals first
    | exact .inl ⟨_, _, rfl⟩
    | exact .inr rfl
theorem ss_frzI {c nf i : Nat} (hf : (I.fl c).length = nf) (h : PS X st (rdS I w ds)) : PS X st (rdS I w (sFrzI c nf i ds)) := PS_imp h fun D σ H ⟨env, S, M, s, sl, p⟩ => by
  unfold sFrzI at p
  split at p
  · rename_i u hu
    rcases frzI_ne c nf u S with ⟨u', S', e⟩ | e
    · rw [e] at p
      obtain ⟨v, hv, r⟩ := sl.get i u hu
      obtain ⟨s', l, r'⟩ := frzI_at hf s r e
      have keep : σ.set i (some v) = σ := List.ext_getElem? fun m => by
        rw [List.getElem?_set]
        by_cases q : i = m
        · subst q
          rw [if_pos rfl, hv, if_pos (List.getElem?_eq_some_iff.mp hv).1]
        · rw [if_neg q]
      have h := (sl.mono l).set (i := i) r'
      rw [keep] at h
      exact ⟨env.set i (some u'), S', M, s', h, EndS.up (r := ds (env.set i (some u')) S') p l⟩
    · rw [e] at p
      exact p.elim
  · exact p.elim
end
theorem q_frzI {c nf i : Nat} {s : DS} {e : Env} {S : Sto} {N : Env → Sto → Prop} {T : W → Sto → Prop} {B C : Env → Sto → Prop} : (sFrzI c nf i s e S).sat N T B C = GV e[i]? (fun x S => (frzI c nf x S).sat fun w S1 => (s (e.set i (some w)) S1).sat N T B C) S := q_form
end Py

/-! Py21: o[i], o2[i2] = a, b -/
namespace Py
open PySem PySem.Spec PyProof.Rows L2
def sSwp (da db o1 i1 o2 i2 : DE) : DS := fun e S => bindS (da e S) e fun x S1 => bindS (db e S1) e fun y S2 => bindS (o1 e S2) e fun u S3 => bindS (i1 e S3) e fun z S4 => match setIx u z x S4 with
  | some S5 => bindS (o2 e S5) e fun u2 S6 => bindS (i2 e S6) e fun z2 S7 => match setIx u2 z2 y S7 with
    | some S8 => .nx e S8
    | none => .bad
  | none => .bad
section
variable {X : Cx} {I : Inf} {w : WX}
theorem rdS_in {D : Ends} {σ : L2.St} {env : Env} {S : Sto} {M : List Addr} {H : Hp} {da : DE} {f : W → Sto → RS} {P : V → Hp → Prop} (s : Sim I S M H) (sl : Slots I M (mask S M H) env σ) (p : EndS I S M H D w (bindS (da env S) env f))
    (k : ∀ (x : W) (v : V) (S1 : Sto) (M1 : List Addr) (H1 : Hp), Le S M H S1 M1 H1 → Sim I S1 M1 H1 → Slots I M1 (mask S1 M1 H1) env σ → RepW I M1 (mask S1 M1 H1) x v → EndS I S1 M1 H1 D w (f x S1) → P v H1) : rdE I w da σ H P := rdS_at s sl p k
theorem ss_swp {a b o1 i1 o2 i2 : Expr} {da db d_o1 d_i1 d_o2 d_i2 : DE} {kt k2 : Nat} {pt pt2 t1 t2 pos : Pos} (hc : X.calm = true) (ha : PE X a (rdE I w da)) (hb : PE X b (rdE I w db)) (ho1 : PE X o1 (rdE I w d_o1)) (hi1 : PE X i1 (rdE I w d_i1)) (ho2 : PE X o2 (rdE I w d_o2)) (hi2 : PE X i2 (rdE I w d_i2))
    (hs1 : starEach [a, b] X.env = (false, eval a X.env) :: starEach [b] X.env := by rfl) (hs2 : starEach [b] X.env = (false, eval b X.env) :: starEach [] X.env := by rfl)
    (hs : swapsWithSole [.Tuple [.Subscript o1 i1 t1, .Subscript o2 i2 t2] kt pt] (.Tuple [a, b] k2 pt2) pos.line X.env = pure false := by rfl)
    (hw : swappedStores [.Tuple [.Subscript o1 i1 t1, .Subscript o2 i2 t2] kt pt] (.Tuple [a, b] k2 pt2) X.env = pure none := by rfl)
    (h1 : (assignEach [.Tuple [.Subscript o1 i1 t1, .Subscript o2 i2 t2] kt pt] X.env).map (·.2) = [assign (.Tuple [.Subscript o1 i1 t1, .Subscript o2 i2 t2] kt pt) X.env] := by rfl)
    (hn : (assignEach [.Subscript o1 i1 t1, .Subscript o2 i2 t2] X.env).length = 2 := by rfl) (hst : (assignEach [.Subscript o1 i1 t1, .Subscript o2 i2 t2] X.env).findIdx? (·.1) = none := by rfl)
    (hg1 : (assignEach [.Subscript o1 i1 t1, .Subscript o2 i2 t2] X.env).map (·.2) = assign (.Subscript o1 i1 t1) X.env :: (assignEach [.Subscript o2 i2 t2] X.env).map (·.2) := by rfl)
    (hg2 : (assignEach [.Subscript o2 i2 t2] X.env).map (·.2) = assign (.Subscript o2 i2 t2) X.env :: (assignEach [] X.env).map (·.2) := by rfl)
    (ha1 : ∀ v, assign (.Subscript o1 i1 t1) X.env v = (do
      let ov ← holding [v] (eval o1 X.env)
      let iv ← holding [v, ov] (eval i1 X.env)
      standAt t1
      holding [v, ov, iv] (setItem ov iv v)
      release [v, ov, iv] []) := by intro _; rfl)
    (ha2 : ∀ v, assign (.Subscript o2 i2 t2) X.env v = (do
      let ov ← holding [v] (eval o2 X.env)
      let iv ← holding [v, ov] (eval i2 X.env)
      standAt t2
      holding [v, ov, iv] (setItem ov iv v)
      release [v, ov, iv] []) := by intro _; rfl) : PS X (.Assign [.Tuple [.Subscript o1 i1 t1, .Subscript o2 i2 t2] kt pt] (.Tuple [a, b] k2 pt2) pos) (rdS I w (sSwp da db d_o1 d_i1 d_o2 d_i2)) :=
  PS_imp (ps_asg (pe_tup (pa_cons ha (pa_cons hb pa_nil hs2) hs1)) (pg_tup hc (pgs_cons (pg_sub ho1 hi1 set_list ha1) (pgs_cons (pg_sub ho2 hi2 set_list ha2) pgs_nil hg2) hg1) hn hst) hs hw h1) fun D σ H q => by
    obtain ⟨e, S, M, s, sl, p⟩ := q
    refine rdS_at s sl p fun x vx S1 M1 H1 l1 s1 sl1 r1 p1 => ?_
    refine rdS_at s1 sl1 p1 fun y vy S2 M2 H2 l2 s2 sl2 r2 p2 => ?_
    refine ⟨by simp; decide, fun q nq => ?_⟩
    obtain ⟨s2', l2'⟩ := s2.new (o := HO.tup [vx, vy]) nq
    refine ⟨q, [vx, vy], rfl, .inl (.inl (upd_same)), rfl, ?_⟩
    refine ⟨vx, [vy], rfl, ?_⟩
    have p2' := p2.up l2'
    have rx := (r1.mono l2).mono l2'
    have ry := r2.mono l2'
    have sl2' := sl2.mono l2'
    refine rdS_at s2' sl2' p2' fun u vu S3 M3 H3 l3 s3 sl3 r3 p3 => ?_
    refine rdS_at s3 sl3 p3 fun z vz S4 M4 H4 l4 s4 sl4 r4 p4 => ?_
    split at p4
    · refine setIx_at s4 (r3.mono l4) r4 ((rx.mono l3).mono l4) (by assumption) fun H' l' s' => ?_
      refine ⟨vy, [], rfl, ?_⟩
      refine rdS_at s' (sl4.mono l') (p4.up l') fun u2 vu2 S6 M6 H6 l6 s6 sl6 r6 p6 => ?_
      refine rdS_at s6 sl6 p6 fun z2 vz2 S7 M7 H7 l7 s7 sl7 r7 p7 => ?_
      split at p7
      · exact setIx_at s7 (r6.mono l7) r7 (((((ry.mono l3).mono l4).mono l').mono l6).mono l7) (by assumption) fun H'' l'' s'' => ⟨rfl, p7 σ H'' M7 l'' s'' (sl7.mono l'')⟩
      · exact p7.elim
    · exact p4.elim
end
theorem q_swp {da db o1 i1 o2 i2 : DE} {e : Env} {S : Sto} {N : Env → Sto → Prop} {T : W → Sto → Prop} {B C : Env → Sto → Prop} : (sSwp da db o1 i1 o2 i2 e S).sat N T B C = (da e S).sat fun x S1 => (db e S1).sat fun y S2 => (o1 e S2).sat fun u S3 => (i1 e S3).sat fun z S4 => ofO' (setIx u z x S4) fun S5 => (o2 e S5).sat fun u2 S6 => (i2 e S6).sat fun z2 S7 => ofO' (setIx u2 z2 y S7) fun S8 => N e S8 := by
  unfold sSwp
  repeat' first | rfl | rw [rs_bind] | (refine sat_cong fun _ _ => ?_)
  generalize setIx _ _ _ _ = o
  cases o with
  | none => rfl
  | some S5 =>
    dsimp only
    repeat' first | rfl | rw [rs_bind] | (refine sat_cong fun _ _ => ?_)
    generalize setIx _ _ _ _ = o
    cases o <;> rfl
end Py

/-! Py22: x += an integer -/
namespace Py
open PySem PySem.Spec PyProof.Rows L2
def opAddI : W → W → Sto → R W
  | .d (.int i), .d (.int j), S => .ok (.d (.int (i + j))) S
  | _, _, _ => .bad
section
variable {X : Cx} {I : Inf} {w : WX}
theorem ss_aug {i : Nat} {x : Str} {e : Expr} {da : DE} {pos pos' : Pos} (hN : X.N.Nodup) (he : PE X e (rdE I w da)) (hi : X.N[i]? = some x := by rfl) (hx : L2.Loc X.env.scope x := by first | exact Or.inl rfl | exact Or.inr rfl)
    (hf : X.fn x = true ∨ X.env.scope.names.lookup x = some .local := by first | exact .inl rfl | exact .inr rfl | assumption) : PS X (.AugAssign (.Name x pos') .Add e pos) (rdS I w (sAug i opAddI da)) :=
  PS_imp (ps_aug hN hi hx he ip_add hf) fun D σ H q => by
    obtain ⟨e, S, M, s, sl, p⟩ := q
    unfold sAug at p
    split at p
    · rename_i x0 hx0
      obtain ⟨v, hv, rv⟩ := sl.get _ _ hx0
      refine ⟨v, hv, rdS_at s sl p fun y vy S1 M1 H1 l1 s1 sl1 r1 p1 => ?_⟩
      have rv1 := rv.mono l1
      unfold opAddI at p1
      split at p1
      · cases rv1
        cases r1
        exact ⟨_, _, rfl, rfl, p1 _ H1 M1 Le.refl s1 (sl1.set (.int _))⟩
      · exact p1.elim
    · exact p.elim
end
end Py

/-! Py23: a list of lists of lists given up; a list times an int as a cell -/
namespace Py
open PySem PySem.Spec PyProof.Rows L2
def frzs3 : List W → Sto → Option (List D × Sto)
  | [], S => some ([], S)
  | x :: r, S => match frz2 x S with
    | .ok (.d d) S1 => match frzs3 r S1 with
      | some (xs, S2) => some (d :: xs, S2)
      | none => none
    | _ => none
def frz3 : W → Sto → R W
  | .d x, S => .ok (.d x) S
  | .c i, S => match S[i]? with
    | some (.lst ws) => match frzs3 ws S with
      | some (xs, S') => match S'[i]? with
        | some (.lst _) => .ok (.d (.lst xs)) (S'.set i .dead)
        | _ => .bad
      | none => .bad
    | _ => .bad
  | .e _ _, _ => .bad
def sFrz3 (i : Nat) (s : DS) : DS := fun e S => match e[i]? with
  | some (some w) => bindS (frz3 w S) e fun w' S' => s (e.set i (some w')) S'
  | _ => .bad
def opRepC (x y : W) (S : Sto) : R W :=
  match lstOf x S, y with
    | some xs, .d (.int k) => if smallI k = true ∧ xs.length * k.toNat ≤ sizeLine then .ok (.c S.length) (S ++ [.lst ((List.replicate k.toNat xs).flatten.map W.d)]) else .bad
    | _, _ => .bad
section
variable {J : Jn} {X : Cx} {I : Inf} {w : WX} {F Fi : FnTab} {k : Nat} {st : Stmt} {ds : DS}
theorem frzs3_at {H : Hp} : ∀ {ws : List W} {vs : List V} {S S' : Sto} {M : List Addr} {xs : List D}, Sim I S M H → RepWs I M (mask S M H) ws vs → frzs3 ws S = some (xs, S') → ∃ M', Sim I S' M' H ∧ Le S M H S' M' H ∧ Reps I (mask S' M' H) xs vs
  | [], _, S, S', M, xs, s, .nil, e => by
    cases e
    exact ⟨M, s, Le.refl, .nil⟩
  | x :: r, _, S, S', M, xs, s, .cons h t, e => by
    unfold frzs3 at e
    split at e
    · rename_i d S1 q1
      split at e
      · rename_i ys S2 q
        cases e
        obtain ⟨M1, s1, l1, r1⟩ := frz2_at s h q1
        obtain ⟨M2, s2, l2, r2⟩ := frzs3_at s1 (RepWs.mono l1 t) q
        exact ⟨M2, s2, l1.trans l2, .cons (Rep.mono l2.ex r1) r2⟩
      · cases e
    · cases e
theorem frz3_at {S S' : Sto} {M : List Addr} {H : Hp} {u u' : W} {v : V} (s : Sim I S M H) (r : RepW I M (mask S M H) u v) (e : frz3 u S = .ok u' S') : ∃ M', Sim I S' M' H ∧ Le S M H S' M' H ∧ RepW I M' (mask S' M' H) u' v := by
  cases u with
  | d x => cases e; exact ⟨M, s, Le.refl, r⟩
  | e c x => cases e
  | c i =>
    unfold frz3 at e
    dsimp only at e
    split at e
    · rename_i ws hc
      split at e
      · rename_i xs S1 hx
        split at e
        · rename_i h1
          cases e
          obtain ⟨a, ea, rfl⟩ := r
          obtain ⟨vs, ho, rw'⟩ := s.cell i _ a hc ea
          obtain ⟨M1, s1, l1, r1⟩ := frzs3_at s rw' hx
          have ea1 : M1[i]? = some a := by
            obtain ⟨t, ht⟩ := l1.pre
            rw [← ht, List.getElem?_append_left (List.getElem?_eq_some_iff.mp ea).1]
            exact ea
          obtain ⟨s2, l2⟩ := s1.kill h1
          refine ⟨M1, s2, l1.trans l2, .lst ?_ (r1.mono l2.ex)⟩
          rw [mask_dead s1 h1 ea1]
          exact ho
        · cases e
      · cases e
    · cases e
theorem frz3_ne (u : W) (S : Sto) : (∃ u' S', frz3 u S = .ok u' S') ∨ frz3 u S = .bad := by
  unfold frz3
  repeat' split
  all_goals first
    | exact .inl ⟨_, _, rfl⟩
    | exact .inr rfl
theorem ss_frz3 {i : Nat} (h : PS X st (rdS I w ds)) : PS X st (rdS I w (sFrz3 i ds)) := ss_form frz3_ne frz3_at h
theorem q_frz3 {i : Nat} {s : DS} {e : Env} {S : Sto} {N T B C} : (sFrz3 i s e S).sat N T B C = GV e[i]? (fun x S => (frz3 x S).sat fun w S1 => (s (e.set i (some w)) S1).sat N T B C) S := q_form
end
theorem o_repC {X : Cx} {I : Inf} : OpR X (binaryOp .Mult) (rdOp ⟨X.K, I.G, I.fl, I.X, I.ex⟩ opRepC) := by
  intro pins s σ H v u ov ou Q In rv ru hh
  obtain ⟨x, y, S, M, sim, rx, ry, p⟩ := hh
  unfold opRepC at p
  split at p
  · rename_i xs k' e1
    split at p
    · rename_i hc
      obtain ⟨h1, h2⟩ := hc
      obtain ⟨a, vs, rfl, hv, r1⟩ := lstOf_at sim rx e1
      cases ry
      obtain ⟨s1, s2⟩ := sm_of h1
      have rr := reps_map (M := M) (r1.rep k'.toNat)
      refine op_rep pins s σ H _ _ ov ou Q In rv ru ⟨_, _, _, rfl, rfl, hv, by omega, by omega, by rw [← r1.len]; exact h2, fun q nq => new_c p sim nq (lows_of sim rr) ⟨_, rfl, rr⟩ (by intro z; cases z)⟩
    · exact p.elim
  · exact p.elim
end Py

/-! Py24: x[::-1] as a cell -/
namespace Py
open PySem PySem.Spec PyProof.Rows L2
def gBackLC (x : W) (S : Sto) : R W := match lstOf x S with
  | some xs => .ok (.c S.length) (S ++ [.lst (xs.reverse.map W.d)])
  | none => .bad
def dBackLC (da : DE) : DE := fun e S => (da e S).bind gBackLC
section
variable {X : Cx} {w : WX} {e : Expr} {de : DE} {k : Nat} {p1 p2 p3 pos : Pos}
theorem sx_backLC {G : Nat → Option Addr} {fl : Nat → List Str} {XX : Nat → Option Addr} {ex : Option (Addr × Value × Option Addr)} (he : PE X e (rdE ⟨X.K, G, fl, XX, ex⟩ w de)) : PE X (.Subscript e (.Slice none none (some (.UnaryOp .USub (.Constant (.int 1) k p1) p2)) p3) pos) (rdE ⟨X.K, G, fl, XX, ex⟩ w (dBackLC de)) :=
  PE_imp (pe_revL he) fun σ H Q q => by
    obtain ⟨en, S, M, sim, sl, p⟩ := q
    refine ⟨en, S, M, sim, sl, (EndR.bind (rel1 := RepW _) p).imp fun v H1 ⟨x, S1, M1, l1, s1, r1, p1⟩ => ?_⟩
    unfold gBackLC at p1
    split at p1
    · rename_i xs e1
      obtain ⟨a, vs, rfl, h1, r2⟩ := lstOf_at s1 r1 e1
      have rr := reps_map (M := M1) r2.reverse
      exact ⟨_, _, rfl, .inl (.inl h1), fun a na => new_c p1 s1 na (lows_of s1 rr) ⟨_, rfl, rr⟩ (by intro z; cases z)⟩
    · exact p1.elim
theorem s_backLC {Q : W → Sto → Prop} {e : Env} {S : Sto} {a : DE} : (dBackLC a e S).sat Q = (a e S).sat fun x S1 => (gBackLC x S1).sat Q := by
  unfold dBackLC
  rw [sat_bind]
end
end Py

/-! Py25: dicts with texts as keys, as cells -/
namespace Py
open PySem PySem.Spec PyProof.Rows L2
def lookK (kvs : List (Key × W)) (k : Key) : Option W := (kvs.find? fun kv => decide (kv.1 = k)).map (·.2)
def putKW (kvs : List (Key × W)) (k : Key) (v : W) : List (Key × W) :=
  if (kvs.any fun kv => decide (kv.1 = k)) = true then kvs.map (fun kv => if kv.1 = k then (kv.1, v) else kv) else kvs ++ [(k, v)]
def mergeW (kvs more : List (Key × W)) : List (Key × W) := more.foldl (fun acc kv => putKW acc kv.1 kv.2) kvs
def getK (k : Str) (x : W) (S : Sto) : R W := match x with
  | .c i => match S[i]? with
    | some (.dK kvs) => match lookK kvs (.inr k) with
      | some w => .ok w S
      | none => .bad
    | _ => .bad
  | _ => .bad
def dGetK (k : Str) (d : DE) : DE := fun e S => (d e S).bind fun x S1 => getK k x S1
def setK (k : Str) (y x : W) (S : Sto) : Option Sto := match y with
  | .c i => match S[i]? with
    | some (.dK kvs) => if x.lowB i = true ∧ kvs.length < sizeLine then some (S.set i (.dK (putKW kvs (.inr k) x))) else none
    | _ => none
  | _ => none
def sPutK (k : Str) (v o : DE) : DS := fun e S => bindS (v e S) e fun x S1 => bindS (o e S1) e fun y S2 => match setK k y x S2 with
  | some S3 => .nx e S3
  | none => .bad
def dArgs : List DE → DA
  | [] => dNil
  | d :: r => dCons d (dArgs r)
def zipK : List Str → List W → List (Key × W)
  | k :: ks, x :: xs => (.inr k, x) :: zipK ks xs
  | _, _ => []
def mkK (n : Nat) (ks : List Str) (xs : List W) (S : Sto) : R W := match S[n]? with
  | some (.dK []) => if ks.length = xs.length ∧ ks.length ≤ 15 ∧ (∀ w ∈ xs, w.lowB n = true) then .ok (.c n) (S.set n (.dK (mergeW [] (zipK ks xs)))) else .bad
  | _ => .bad
def dDict (ks : List Str) (ds : List DE) : DE := fun e S => (dArgs ds e (S ++ [.dK []])).bind fun xs S2 => mkK S.length ks xs S2
section
variable {I : Inf} {M : List Addr} {Hm : Hp}
abbrev PK (I : Inf) (M : List Addr) (Hm : Hp) : Key × W → Key × V → Prop := fun p q => p.1 = q.1 ∧ RepW I M Hm p.2 q.2
theorem lookK_at {kvs : List (Key × W)} {us : List (Key × V)} {k : Key} {w : W} (h : Paired (PK I M Hm) kvs us) (e : lookK kvs k = some w) : ∃ v, valV us k = some v ∧ RepW I M Hm w v := by
  induction h with
  | nil => cases e
  | @cons p q ps qs r t ih =>
    by_cases hk : p.1 = k
    · have e1 : lookK (p :: ps) k = some p.2 := by simp [lookK, List.find?_cons, hk]
      rw [e1] at e
      cases e
      exact ⟨q.2, valV_pos (r.1 ▸ hk), r.2⟩
    · have e1 : lookK (p :: ps) k = lookK ps k := by simp [lookK, List.find?_cons, hk]
      rw [e1] at e
      obtain ⟨v, h1, h2⟩ := ih e
      exact ⟨v, by rw [valV_neg (r.1 ▸ hk)]; exact h1, h2⟩
theorem any_at {kvs : List (Key × W)} {us : List (Key × V)} (k : Key) (h : Paired (PK I M Hm) kvs us) : (kvs.any fun kv => decide (kv.1 = k)) = us.any fun kv => decide (kv.1 = k) := by
  induction h with
  | nil => rfl
  | cons r t ih => rw [List.any_cons, List.any_cons, ih, r.1]
theorem map_at {kvs : List (Key × W)} {us : List (Key × V)} {k : Key} {x : W} {v : V} (h : Paired (PK I M Hm) kvs us) (r : RepW I M Hm x v) : Paired (PK I M Hm) (kvs.map fun kv => if kv.1 = k then (kv.1, x) else kv) (us.map fun kv => if kv.1 = k then (kv.1, v) else kv) := by
  induction h with
  | nil => exact .nil
  | @cons p q ps qs rr t ih =>
    refine .cons ?_ ih
    dsimp only
    by_cases hk : p.1 = k
    · rw [if_pos hk, if_pos (rr.1 ▸ hk)]
      exact ⟨rr.1, r⟩
    · rw [if_neg hk, if_neg (rr.1 ▸ hk)]
      exact rr
theorem pk_app {ks ls : List (Key × W)} {us vs : List (Key × V)} (h : Paired (PK I M Hm) ks us) (g : Paired (PK I M Hm) ls vs) : Paired (PK I M Hm) (ks ++ ls) (us ++ vs) := by
  induction h with
  | nil => exact g
  | cons r t ih => exact .cons r ih
theorem putK_at {kvs : List (Key × W)} {us : List (Key × V)} {k : Key} {x : W} {v : V} (h : Paired (PK I M Hm) kvs us) (r : RepW I M Hm x v) : Paired (PK I M Hm) (putKW kvs k x) (putK us k v) := by
  unfold putKW putK
  rw [any_at k h]
  split
  · exact map_at h r
  · exact pk_app h (.cons ⟨rfl, r⟩ .nil)
theorem merge_at {ls : List (Key × W)} {vs : List (Key × V)} (g : Paired (PK I M Hm) ls vs) : ∀ {kvs : List (Key × W)} {us : List (Key × V)}, Paired (PK I M Hm) kvs us → Paired (PK I M Hm) (mergeW kvs ls) (mergeK us vs) := by
  induction g with
  | nil => intro kvs us h; exact h
  | @cons p q ps qs r t ih =>
    intro kvs us h
    show Paired _ (mergeW (putKW kvs p.1 p.2) ps) (mergeK (putK us q.1 q.2) qs)
    rw [← r.1]
    exact ih (putK_at h r.2)
theorem low_put {kvs : List (Key × W)} {k : Key} {x : W} {n : Nat} (h : ∀ w ∈ kvs, w.2.low n) (hx : x.low n) : ∀ w ∈ putKW kvs k x, w.2.low n := fun w m => by
  unfold putKW at m
  split at m
  · obtain ⟨p, mp, rfl⟩ := List.mem_map.mp m
    split
    · exact hx
    · exact h p mp
  · rcases List.mem_append.mp m with m | m
    · exact h w m
    · rw [List.mem_singleton.mp m]
      exact hx
theorem low_merge {ls : List (Key × W)} {n : Nat} : ∀ {kvs : List (Key × W)}, (∀ w ∈ kvs, w.2.low n) → (∀ w ∈ ls, w.2.low n) → ∀ w ∈ mergeW kvs ls, w.2.low n := by
  induction ls with
  | nil => intro kvs h _; exact h
  | cons p ps ih =>
    intro kvs h g
    exact ih (low_put h (g p (by simp))) fun w m => g w (by simp [m])
end
section
variable {J : Jn} {X : Cx} {I : Inf} {w : WX} {F Fi : FnTab} {k : Nat} {o value : Expr} {d_o dv : DE} {pos pos' p2 : Pos} {j : Nat}
theorem sx_dget {z : Str} (t : Cok J X w F Fi k) (ho : PE X o (rdE I w d_o)) (hs : NoSl (.Constant (.str z) j p2) := by intro _ _; rfl) : PE X (.Subscript o (.Constant (.str z) j p2) pos) (rdE I w (dGetK z d_o)) :=
  PE_imp (pe_dget (by have := units64 t.room; omega) ho (sx_str (w := w) (I := I)) hs) fun σ H Q q => rd_one (f := fun _ x S => getK z x S) q fun x v env S M H s sl rx p => by
    refine ⟨env, S, M, s, sl, fun b H' M' l' s' r' => ?_⟩
    cases r'
    have p := EndR.up p l'
    have rx := rx.mono l'
    unfold getK at p
    split at p
    · rename_i i
      split at p
      · rename_i kvs hc
        split at p
        · rename_i w' hw
          obtain ⟨a, ea, rfl⟩ := rx
          obtain ⟨us, hu, pr⟩ := s'.cell _ _ a hc ea
          obtain ⟨v', h1, h2⟩ := lookK_at pr hw
          refine ⟨a, v', rfl, ?_, p.here s' h2⟩
          have := DGet.k (k := .inr z) hu
          rw [h1] at this
          exact this
        · exact p.elim
      · exact p.elim
    · exact p.elim
theorem ss_put {z : Str} (t : Cok J X w F Fi k) (hv : PE X value (rdE I w dv)) (ho : PE X o (rdE I w d_o)) (hs : swapsWith value (some (.Subscript o (.Constant (.str z) j p2) pos')) pos.line X.env = pure false := by rfl) : PS X (.Assign [.Subscript o (.Constant (.str z) j p2) pos'] value pos) (rdS I w (sPutK z dv d_o)) :=
  PS_imp (ps_dput (by have := units64 t.room; omega) ho (sx_str (w := w) (I := I)) hv hs) fun D σ H q => by
    obtain ⟨e, S, M, s, sl, p⟩ := q
    refine rdS_at s sl p fun x vx S1 M1 H1 l1 s1 sl1 r1 p1 => ?_
    refine rdS_at s1 sl1 p1 fun y vy S2 M2 H2 l2 s2 sl2 r2 p2 => ?_
    refine ⟨e, S2, M2, s2, sl2, fun b H3 M3 l3 s3 r3 => ?_⟩
    cases r3
    split at p2
    · rename_i S4 h4
      unfold setK at h4
      split at h4
      · rename_i i
        split at h4
        · rename_i kvs hc
          split at h4
          · rename_i hh
            obtain ⟨hlo, hsz⟩ := hh
            cases h4
            obtain ⟨a, ea, rfl⟩ := r2.mono l3
            obtain ⟨us, hu, pr⟩ := s3.cell _ _ a hc ea
            have rx := (r1.mono l2).mono l3
            have hl := Paired.length pr
            obtain ⟨s5, l5⟩ := s3.write hc ea (by intro q; cases q) (c' := .dK (putKW kvs (.inr z) x)) (by intro q; cases q) (low_put (s3.low _ _ hc) (W.lowB_of hlo)) ⟨_, rfl, putK_at (k := .inr z) pr rx⟩
            exact ⟨a, _, rfl, DPut.k (k := .inr z) hu (by rw [← hl]; exact hsz), p2 _ _ _ (l3.trans l5) s5 (sl2.mono (l3.trans l5))⟩
          · cases h4
        · cases h4
      · cases h4
    · exact p2.elim
def trsOf (I : Inf) (w : WX) : List Str → List DE → List (TE × TE)
  | k :: ks, d :: ds => (rdE I w (dC (.str k)), rdE I w d) :: trsOf I w ks ds
  | _, _ => []
def zipV : List Str → List V → List (V × V)
  | k :: ks, v :: vs => (.str k, v) :: zipV ks vs
  | _, _ => []
theorem pairs_at {α : Type} {rel : List Addr → Hp → α → V → Prop} {Q : VK} {σ : L2.St} {env : Env} : ∀ {ks : List Str} {ds : List DE} {f : List W → Sto → R α} {S : Sto} {M : List Addr} {H : Hp} {G : List (V × V) → Hp → Prop}, ks.length = ds.length → Sim I S M H → Slots I M (mask S M H) env σ →
    EndR I S M H rel Q (fun cls dd H' => w cls dd σ H') ((dArgs ds env S).bind f) →
    (∀ (xs : List W) (vs : List V) (S' : Sto) (M' : List Addr) (H' : Hp), Le S M H S' M' H' → Sim I S' M' H' → RepWs I M' (mask S' M' H') xs vs → EndR I S' M' H' rel Q (fun cls dd H' => w cls dd σ H') (f xs S') → G (zipV ks vs) H') → tPairs (trsOf I w ks ds) σ H G
  | [], [], f, S, M, H, G, hl, s, sl, p, g => g [] [] S M H Le.refl s .nil p
  | k :: ks, d :: ds, f, S, M, H, G, hl, s, sl, p, g => by
    refine ⟨env, S, M, s, sl, fun b H1 M1 l1 s1 r1 => ?_⟩
    cases r1
    have p1 := EndR.up p l1
    have sl1 := sl.mono l1
    have p1' : EndR I S M1 H1 rel Q (fun cls dd H' => w cls dd σ H') ((d env S).bind fun x S1 => (dArgs ds env S1).bind fun xs S2 => f (x :: xs) S2) := by
      have e : (dArgs (d :: ds) env S).bind f = (d env S).bind fun x S1 => (dArgs ds env S1).bind fun xs S2 => f (x :: xs) S2 := by
        show (R.bind (d env S) fun x S1 => R.bind (dArgs ds env S1) fun xs S2 => .ok (x :: xs) S2).bind f = _
        cases d env S with
        | ok x S1 =>
          show (R.bind (dArgs ds env S1) fun xs S2 => .ok (x :: xs) S2).bind f = R.bind (dArgs ds env S1) fun xs S2 => f (x :: xs) S2
          cases dArgs ds env S1 <;> rfl
        | exc c x S1 => rfl
        | bad => rfl
      rw [← e]
      exact p1
    refine ⟨env, S, M1, s1, sl1, (EndR.bind (rel1 := RepW I) p1').imp fun u H2 ⟨y, S2, M2, l2, s2, r2, p2⟩ => ?_⟩
    exact pairs_at (f := fun xs S3 => f (y :: xs) S3) (by simpa using hl) s2 (sl1.mono l2) p2 fun xs vs S' M' H' l' s' r' q' => g (y :: xs) (u :: vs) S' M' H' ((l1.trans l2).trans l') s' (.cons (r2.mono l') r') q'
theorem zipK_at {M : List Addr} {Hm : Hp} : ∀ {ks : List Str} {xs : List W} {vs : List V}, ks.length = xs.length → RepWs I M Hm xs vs → ∃ us : List (Key × V), zipV ks vs = us.map (fun kv => (kV kv.1, kv.2)) ∧ us.length = ks.length ∧ Paired (PK I M Hm) (zipK ks xs) us
  | [], [], _, h, .nil => ⟨[], rfl, rfl, .nil⟩
  | k :: ks, x :: xs, v :: vs, h, .cons r t => by
    obtain ⟨us, h1, h2, h3⟩ := zipK_at (ks := ks) (by simpa using h) t
    exact ⟨(.inr k, v) :: us, by rw [zipV, h1]; rfl, by simp [h2], .cons ⟨rfl, r⟩ h3⟩
theorem zipK_low {n : Nat} : ∀ {ks : List Str} {xs : List W}, (∀ x ∈ xs, x.lowB n = true) → ∀ q ∈ zipK ks xs, q.2.low n
  | [], xs, h, q, m => by cases xs <;> cases m
  | k :: ks, [], h, q, m => by cases m
  | k :: ks, x :: xs, h, q, m => by
    rcases List.mem_cons.mp m with rfl | m
    · exact W.lowB_of (h x (by simp))
    · exact zipK_low (fun y my => h y (by simp [my])) q m
theorem sx_dict {keys : List (Option Expr)} {values : List Expr} {ks : List Str} {ds : List DE} (h : PPs X pos keys values (trsOf I w ks ds)) (hall : keys.all (·.isSome) = true := by rfl) (hl : keys.length = values.length := by rfl) (h0 : keys ≠ [] := by simp) (h15 : keys.length ≤ 15 := by decide) (hk : ks.length = ds.length := by rfl) :
    PE X (.Dict keys values pos) (rdE I w (dDict ks ds)) :=
  PE_imp (pe_disp h hall hl h0 h15) fun σ H Q q => by
    obtain ⟨env, S, M, s, sl, p⟩ := q
    intro a na
    obtain ⟨s1, l1⟩ := s.newC (o := .dK []) (c := .dK []) na (fun _ m => by cases m) ⟨[], rfl, .nil⟩ (by intro z; cases z)
    have p1 := EndR.up p l1
    have hM : (M ++ [a])[S.length]? = some a := by rw [← s.len]; simp
    refine pairs_at hk s1 (sl.mono l1) p1 fun xs vs S2 M2 H2 l2 s2 r2 p2 => ?_
    unfold mkK at p2
    split at p2
    · rename_i hc
      split at p2
      · rename_i hh
        obtain ⟨e1, e2, e3⟩ := hh
        have ea := pre_get l2.pre hM
        obtain ⟨us0, hu, pr0⟩ := s2.cell _ _ a hc ea
        cases pr0
        obtain ⟨us, z1, z2, z3⟩ := zipK_at e1 r2
        obtain ⟨s3, l3⟩ := s2.write hc ea (by intro q; cases q) (c' := .dK (mergeW [] (zipK ks xs))) (by intro q; cases q) (low_merge (fun _ m => by cases m) (zipK_low e3)) ⟨_, rfl, merge_at z3 .nil⟩
        exact ⟨hu, us, z1, by rw [z2]; exact e2, p2 _ _ _ l3 s3 ⟨a, ea, rfl⟩⟩
      · exact p2.elim
    · exact p2.elim
end
end Py

/-! Py26: a dict of the module: texts to ints -/
namespace Py
open PySem PySem.Spec PyProof.Rows L2
/-- the number at a text of a written table -/
def tblGet (kv : List (Str × Int)) (x : W) (S : Sto) : R W := match x with
  | .d (.str z) => match kv.find? fun p => decide (p.1 = z) with
    | some p => .ok (.d (.int p.2)) S
    | none => .bad
  | _ => .bad
def dTbl (kv : List (Str × Int)) (d : DE) : DE := fun e S => (d e S).bind fun x S1 => tblGet kv x S1
section
variable {J : Jn} {X : Cx} {w : WX} {F Fi : FnTab} {k : Nat} {i : Expr} {di : DE} {pos p1 : Pos}
theorem sx_tbl {x : Str} {kv : List (Str × Int)} (t : Cok J X w F Fi k) (h : J.sg.dct x = some kv) (hi : PE X i (rdE (J.inf X.K) w di)) (hg : Gl X x := by rfl) (hd : (x == ("__debug__" : Str)) = false := by decide) (hs : PlainIx i := by intro _ _; rfl) :
    PE X (.Subscript (.Name x p1) i pos) (rdE (J.inf X.K) w (dTbl kv di)) := by
  obtain ⟨d, g1, g2⟩ := t.dct x kv h
  refine PE_imp (pe_ix ix_kdict (pe_glob hg g1 (v := .ref d) rfl hd) hi hs) fun σ H Q q => ?_
  show rdE (J.inf X.K) w di σ H fun y H1 => rIxD X.K X.w (.ref d) y H1 Q
  exact rd_one (f := fun _ x S1 => tblGet kv x S1) q fun y v e S M H s sl r p => by
    unfold tblGet at p
    split at p
    · split at p
      · rename_i z _ pr hf
        cases r
        have m := List.mem_of_find?_eq_some hf
        have e1 := List.find?_some hf
        have e2 : pr.1 = z := by simpa using e1
        have := g2 pr m
        rw [e2] at this
        exact ⟨d, z, _, rfl, rfl, this, p.here s (.int _)⟩
      · exact p.elim
    · exact p.elim
end
theorem s_tbl {Q : W → Sto → Prop} {kv : List (Str × Int)} {a : DE} {e : Env} {S : Sto} : (dTbl kv a e S).sat Q = (a e S).sat fun x S1 => (tblGet kv x S1).sat Q := by
  unfold dTbl
  rw [sat_bind]
theorem s_getK {Q : W → Sto → Prop} {z : Str} {a : DE} {e : Env} {S : Sto} : (dGetK z a e S).sat Q = (a e S).sat fun x S1 => (getK z x S1).sat Q := by
  unfold dGetK
  rw [sat_bind]
theorem dct_of {K : PySem.W.Frag} {wd : World} {d : Addr} {es : Array DictEntry} {n : Nat} {ks : List Str} {z : Str} {u : Value} {v : V} (hl : K.lookup d = some ⟨.type "dict", none, .dict es n, #[]⟩) (h : es.toList.map He.keyOf = He.keysIn wd.params ks) (hn : PySem.W.nsIn K d z = some (some u)) (r : RelV v u) : KDct K wd d z v :=
  ⟨es, n, u, hl, He.keysLit_of h, hn, r⟩
end Py

/-! Py27: range(a, b, c), any step. -/
namespace Py
open PySem PySem.Spec PyProof.Rows L2
def rngS (m n q : Int) : List W := (List.range (Builtin.Range.rangeSize m n q).toNat).map fun (i : Nat) => W.d (.int (m + (i : Nat) * q))
def rgS : W → W → W → Option (List W × (Sto → Prop))
  | .d (.int m), .d (.int n), .d (.int q) => if q ≠ 0 ∧ q.natAbs < 1073741824 ∧ Builtin.Range.small m n q = true then some (rngS m n q, fun _ => True) else none
  | _, _, _ => none
@[simp] def iRangeS (a b c : DE) : DI := fun e S => (a e S).bind fun x S1 => (b e S1).bind fun y S2 => (c e S2).bind fun z S3 => ofO (rgS x y z) S3
section
variable {J : Jn} {X : Cx} {I : Inf} {w : WX} {F Fi : FnTab} {k : Nat} {a b c tg : Expr} {da db dc : DE} {pos p : Pos}
theorem wk_rangeS {m n q : Int} {gd : Sto → Prop} {S : Sto} {M : List Addr} {H : Hp} : WalkI I (Itc m q (Builtin.Range.rangeSize m n q).toNat) (rngS m n q) gd S M H where
  item := fun S2 M2 Hs H2 l s ex hg i x hx => by
    obtain ⟨h1, rfl⟩ := by
      unfold rngS at hx
      rw [List.getElem?_map] at hx
      exact (show i < (Builtin.Range.rangeSize m n q).toNat ∧ x = W.d (.int (m + (i : Nat) * q)) by
        by_cases hi : i < (Builtin.Range.rangeSize m n q).toNat
        · rw [List.getElem?_range hi] at hx
          cases hx
          exact ⟨hi, rfl⟩
        · rw [List.getElem?_eq_none (by simpa using hi)] at hx
          cases hx)
    refine ⟨h1, fun u H3 hy => .inl ⟨hy.1, ?_⟩⟩
    rw [hy.2]
    exact .int _
  stop := fun S2 M2 Hs H2 l s ex hg => by
    show _ ≤ _
    simp [rngS]
theorem si_rangeS (t : Cok J X w F Fi k) (hb : J.sg.blt "range" = true) (ha : PE X a (rdE (J.inf X.K) w da)) (hb' : PE X b (rdE (J.inf X.K) w db)) (hc' : PE X c (rdE (J.inf X.K) w dc)) (hg : Gl X "range" := by rfl)
    (hs : starEach [a, b, c] X.env = (false, eval a X.env) :: starEach [b, c] X.env := by rfl) (hpl : (backTo pos (starEach [b, c] X.env)).any (·.1) = false := by rfl)
    (hs2' : starEach [b, c] X.env = (false, eval b X.env) :: starEach [c] X.env := by rfl) (hs3' : starEach [c] X.env = (false, eval c X.env) :: starEach [] X.env := by rfl) : PI X tg (.Call (.Name "range" p) [a, b, c] [] pos) (rdI (J.inf X.K) w (iRangeS da db dc)) :=
  PI_imp (pi_range3 hg (t.glb _ hb) (pa_cons ha (pa_cons hb' (pa_cons hc' pa_nil hs3') hs2') hs) hs hpl) fun σ H R ⟨env, S, M, sim, sl, p⟩ => by
    show rdE (J.inf X.K) w da σ H fun x H1 => rdE (J.inf X.K) w db σ H1 fun y H2 => rdE (J.inf X.K) w dc σ H2 fun z H3 => ∃ (i j c : Int) (n : Nat), [x, y, z] = [.int i, .int j, .int c] ∧ RgC i j c n ∧ R (Itc i c n) H3
    refine rdI_at (R := R) (f := fun x S1 => (db env S1).bind fun y S2 => (dc env S2).bind fun z S3 => ofO (rgS x y z) S3) sim sl p fun x v S1 M1 H1 l1 s1 sl1 r1 p1 => ?_
    refine rdI_at (R := R) (f := fun y S2 => (dc env S2).bind fun z S3 => ofO (rgS x y z) S3) s1 sl1 p1 fun y u S2 M2 H2 l2 s2 sl2 r2 p2 => ?_
    refine rdI_at (R := R) (f := fun z S3 => ofO (rgS x y z) S3) s2 sl2 p2 fun z uz S3 M3 H3 l3 s3 sl3 r3 p3 => ?_
    obtain ⟨q, hq, kk⟩ := EndI.of p3 s3
    unfold rgS at hq
    split at hq
    · rename_i m n o
      split at hq
      · rename_i hn
        obtain ⟨h1, h2, h3⟩ := hn
        cases hq
        cases r1
        cases r2
        cases r3
        exact ⟨m, n, o, _, rfl, ⟨h1, h2, h3, rangeSize_toNat _ _ _⟩, kk _ wk_rangeS⟩
      · cases hq
    · cases hq
end
theorem s_rS {a b o : DE} {e : Env} {S : Sto} {QI : List W × (Sto → Prop) → Sto → Prop} : (iRangeS a b o e S).sat QI = (a e S).sat fun x S1 => (b e S1).sat fun y S2 => (o e S2).sat fun z S3 => ofO' (rgS x y z) fun p => QI p S3 := by
  unfold iRangeS
  repeat' first | rfl | rw [sat_bind] | rw [sat_ne] | (refine sat_cong fun _ _ => ?_) | rw [sat_ite] | (refine br_cong ?_ ?_)
  generalize rgS _ _ _ = o
  cases o <;> rfl
end Py

open Py
local macro_rules
  | `(tactic| simp! [$xs,*]) => `(tactic| simp (config := { dsimp := false, implicitDefEqProofs := false }) only [↓rs_pass, ↓rs_for, ↓dComp_sat, ↓dCompC_sat, ↓dComp2_sat, ↓comp_nil, ↓comp_cons, plainL_map, ↓br_t, ↓br_f, ↓sat_ok, ↓sat_bad, ↓sat_ite, ↓GV_s, ↓ofO_s, ↓ofO_n,
      ↓s_var, ↓s_c, ↓s_op, ↓s_un, ↓s_nil, ↓s_cons, ↓s_tup, ↓s_lst, ↓s_lstC, ↓s_frz, ↓s_call, ↓s_meth, ↓s_mk, ↓s_mkK, ↓s_attr, ↓s_tr, ↓s_tb, ↓s_and, ↓s_or, ↓s_not, ↓s_andV, ↓s_orV, ↓s_notV, ↓s_ifE, ↓s_chain, ↓s_B, ↓s_isT, ↓s_isC, ↓s_none, ↓s_some, ↓s_sl, ↓s_app, ↓s_any, ↓s_r1, ↓s_r2, ↓s_r3, ↓s_zip, ↓s_rev, ↓s_enum, ↓s_bm, ↓s_callO, ↓s_prop, ↓s_yes,
      ↓q_expr, ↓q_ret, ↓q_retN, ↓q_if, ↓q_break, ↓q_cont, ↓q_never, ↓q_asg, ↓q_par, ↓q_aug, ↓q_sub, ↓q_fld, ↓q_frz, ↓q_frz2, ↓q_mv, ↓q_while,
      GV_s, ofO_s, ofO_n, br_t, br_f, sat_ok, sat_bad, sat_ite, tupR, lstR, lstCR, tbR, isTR, isCR, someR, itR,
      plainL, frz, seqOf, opIx, opSub, opMul, opDiv, opMod, opPow18, opNeg, opAdd, lstOf, eqS, opEqS, opNeS, opEqG, opNeG, opLt, opLe, opGt, opGe, isN, opIs, opIsNot, isC, attr, tru, truO_bl, truO_int, truO_tup, truO_lst, truO_non, gLen, gAbs, gMax2, gMin2, gInt, gStr, lsOf, gTuple, gList, gListC, gMax1, gSum, gSort, gAny, gAll, intsL_map, boolsL_map, intsL, boolsL, Option.bind_some, Option.map_some, tyOf, isT, slc, opO, unO, gNm, gNil, gCons, gTp, uns, setIx, W.lowB, setAt, app, isLc, itemsOf, rg1, rg2, rg3, zipO, revO, enumO, tyS, ofP, putL, gPop, gExtend, gSIndex, gSFind, gSJoin, gInsert, gBool, lstW, eqO, okT, mv, cutR_d, atI_0, atI_1, atI_2, atI_3, atI_4, atI_5, atI_6, atI_7, ixN_0, ixN_1, ixN_2, ixN_3, ixN_4, ixN_5, ixN_6, ixN_7,
      List.getElem?_cons_zero, List.getElem?_cons_succ, List.set_cons_zero, List.set_cons_succ, List.getElem?_nil, List.length_cons, List.length_nil, List.length_append, List.length_set, List.length_map, List.map_cons, List.map_nil, List.map_append, List.append_nil, List.nil_append, List.cons_append, List.replicate, Option.some.injEq, dec_t, if_true, if_false, ite_true, ite_false, reduceIte, reduceCtorEq, Nat.reduceSub, Nat.reduceAdd, Nat.reduceLT, Nat.reduceLeDiff, Nat.reduceEqDiff, Int.reduceEq, Int.reduceNe, Int.reduceLE, Int.reduceLT, Int.reduceAdd, Int.reduceSub, Int.reduceMul, Int.reduceNeg, Bool.false_eq_true, Bool.not_eq_true', Bool.not_true, Bool.not_false, decide_true, decide_false, beq_self_eq_true, ne_eq, not_true_eq_false, not_false_eq_true, true_and, and_true, and_self, false_and, and_false, $xs,*])
local macro_rules
  | `(tactic| simp!) => `(tactic| simp (config := { dsimp := false, implicitDefEqProofs := false }) only [↓rs_pass, ↓rs_for, ↓dComp_sat, ↓dCompC_sat, ↓dComp2_sat, ↓comp_nil, ↓comp_cons, plainL_map, ↓br_t, ↓br_f, ↓sat_ok, ↓sat_bad, ↓sat_ite, ↓GV_s, ↓ofO_s, ↓ofO_n,
      ↓s_var, ↓s_c, ↓s_op, ↓s_un, ↓s_nil, ↓s_cons, ↓s_tup, ↓s_lst, ↓s_lstC, ↓s_frz, ↓s_call, ↓s_meth, ↓s_mk, ↓s_mkK, ↓s_attr, ↓s_tr, ↓s_tb, ↓s_and, ↓s_or, ↓s_not, ↓s_andV, ↓s_orV, ↓s_notV, ↓s_ifE, ↓s_chain, ↓s_B, ↓s_isT, ↓s_isC, ↓s_none, ↓s_some, ↓s_sl, ↓s_app, ↓s_any, ↓s_r1, ↓s_r2, ↓s_r3, ↓s_zip, ↓s_rev, ↓s_enum, ↓s_bm, ↓s_callO, ↓s_prop, ↓s_yes,
      ↓q_expr, ↓q_ret, ↓q_retN, ↓q_if, ↓q_break, ↓q_cont, ↓q_never, ↓q_asg, ↓q_par, ↓q_aug, ↓q_sub, ↓q_fld, ↓q_frz, ↓q_frz2, ↓q_mv, ↓q_while,
      GV_s, ofO_s, ofO_n, br_t, br_f, sat_ok, sat_bad, sat_ite, tupR, lstR, lstCR, tbR, isTR, isCR, someR, itR,
      plainL, frz, seqOf, opIx, opSub, opMul, opDiv, opMod, opPow18, opNeg, opAdd, lstOf, eqS, opEqS, opNeS, opEqG, opNeG, opLt, opLe, opGt, opGe, isN, opIs, opIsNot, isC, attr, tru, truO_bl, truO_int, truO_tup, truO_lst, truO_non, gLen, gAbs, gMax2, gMin2, gInt, gStr, lsOf, gTuple, gList, gListC, gMax1, gSum, gSort, gAny, gAll, intsL_map, boolsL_map, intsL, boolsL, Option.bind_some, Option.map_some, tyOf, isT, slc, opO, unO, gNm, gNil, gCons, gTp, uns, setIx, W.lowB, setAt, app, isLc, itemsOf, rg1, rg2, rg3, zipO, revO, enumO, tyS, ofP, putL, gPop, gExtend, gSIndex, gSFind, gSJoin, gInsert, gBool, lstW, eqO, okT, mv, cutR_d, atI_0, atI_1, atI_2, atI_3, atI_4, atI_5, atI_6, atI_7, ixN_0, ixN_1, ixN_2, ixN_3, ixN_4, ixN_5, ixN_6, ixN_7,
      List.getElem?_cons_zero, List.getElem?_cons_succ, List.set_cons_zero, List.set_cons_succ, List.getElem?_nil, List.length_cons, List.length_nil, List.length_append, List.length_set, List.length_map, List.map_cons, List.map_nil, List.map_append, List.append_nil, List.nil_append, List.cons_append, List.replicate, Option.some.injEq, dec_t, if_true, if_false, ite_true, ite_false, reduceIte, reduceCtorEq, Nat.reduceSub, Nat.reduceAdd, Nat.reduceLT, Nat.reduceLeDiff, Nat.reduceEqDiff, Int.reduceEq, Int.reduceNe, Int.reduceLE, Int.reduceLT, Int.reduceAdd, Int.reduceSub, Int.reduceMul, Int.reduceNeg, Bool.false_eq_true, Bool.not_eq_true', Bool.not_true, Bool.not_false, decide_true, decide_false, beq_self_eq_true, ne_eq, not_true_eq_false, not_false_eq_true, true_and, and_true, and_self, false_and, and_false])
local macro_rules
  | `(tactic| dsimp! [$xs,*]) => `(tactic| simp (config := { dsimp := false, implicitDefEqProofs := false }) only [↓rs_seq, ↓rs_pass, ↓rs_for, ↓dComp_sat, ↓dCompC_sat, ↓dComp2_sat, ↓comp_nil, ↓comp_cons, plainL_map, ↓br_t, ↓br_f, ↓sat_ok, ↓sat_bad, ↓sat_ite, ↓GV_s, ↓ofO_s, ↓ofO_n,
      ↓s_var, ↓s_c, ↓s_op, ↓s_un, ↓s_nil, ↓s_cons, ↓s_tup, ↓s_lst, ↓s_lstC, ↓s_frz, ↓s_call, ↓s_meth, ↓s_mk, ↓s_mkK, ↓s_attr, ↓s_tr, ↓s_tb, ↓s_and, ↓s_or, ↓s_not, ↓s_andV, ↓s_orV, ↓s_notV, ↓s_ifE, ↓s_chain, ↓s_B, ↓s_isT, ↓s_isC, ↓s_none, ↓s_some, ↓s_sl, ↓s_app, ↓s_any, ↓s_r1, ↓s_r2, ↓s_r3, ↓s_zip, ↓s_rev, ↓s_enum, ↓s_bm, ↓s_callO, ↓s_prop, ↓s_yes,
      ↓q_expr, ↓q_ret, ↓q_retN, ↓q_if, ↓q_break, ↓q_cont, ↓q_never, ↓q_asg, ↓q_par, ↓q_aug, ↓q_sub, ↓q_fld, ↓q_frz, ↓q_frz2, ↓q_mv, ↓q_while,
      GV_s, ofO_s, ofO_n, br_t, br_f, sat_ok, sat_bad, sat_ite, tupR, lstR, lstCR, tbR, isTR, isCR, someR, itR,
      plainL, frz, seqOf, opIx, opSub, opMul, opDiv, opMod, opPow18, opNeg, opAdd, lstOf, eqS, opEqS, opNeS, opEqG, opNeG, opLt, opLe, opGt, opGe, isN, opIs, opIsNot, isC, attr, tru, truO_bl, truO_int, truO_tup, truO_lst, truO_non, gLen, gAbs, gMax2, gMin2, gInt, gStr, lsOf, gTuple, gList, gListC, gMax1, gSum, gSort, gAny, gAll, intsL_map, boolsL_map, intsL, boolsL, Option.bind_some, Option.map_some, tyOf, isT, slc, opO, unO, gNm, gNil, gCons, gTp, uns, setIx, W.lowB, setAt, app, isLc, itemsOf, rg1, rg2, rg3, zipO, revO, enumO, tyS, ofP, putL, gPop, gExtend, gSIndex, gSFind, gSJoin, gInsert, gBool, lstW, eqO, okT, mv, cutR_d, atI_0, atI_1, atI_2, atI_3, atI_4, atI_5, atI_6, atI_7, ixN_0, ixN_1, ixN_2, ixN_3, ixN_4, ixN_5, ixN_6, ixN_7,
      List.getElem?_cons_zero, List.getElem?_cons_succ, List.set_cons_zero, List.set_cons_succ, List.getElem?_nil, List.length_cons, List.length_nil, List.length_append, List.length_set, List.length_map, List.map_cons, List.map_nil, List.map_append, List.append_nil, List.nil_append, List.cons_append, List.replicate, Option.some.injEq, dec_t, if_true, if_false, ite_true, ite_false, reduceIte, reduceCtorEq, Nat.reduceSub, Nat.reduceAdd, Nat.reduceLT, Nat.reduceLeDiff, Nat.reduceEqDiff, Int.reduceEq, Int.reduceNe, Int.reduceLE, Int.reduceLT, Int.reduceAdd, Int.reduceSub, Int.reduceMul, Int.reduceNeg, Bool.false_eq_true, Bool.not_eq_true', Bool.not_true, Bool.not_false, decide_true, decide_false, beq_self_eq_true, ne_eq, not_true_eq_false, not_false_eq_true, true_and, and_true, and_self, false_and, and_false, $xs,*])
local macro_rules
  | `(tactic| dsimp!) => `(tactic| simp (config := { dsimp := false, implicitDefEqProofs := false }) only [↓rs_seq, ↓rs_pass, ↓rs_for, ↓dComp_sat, ↓dCompC_sat, ↓dComp2_sat, ↓comp_nil, ↓comp_cons, plainL_map, ↓br_t, ↓br_f, ↓sat_ok, ↓sat_bad, ↓sat_ite, ↓GV_s, ↓ofO_s, ↓ofO_n,
      ↓s_var, ↓s_c, ↓s_op, ↓s_un, ↓s_nil, ↓s_cons, ↓s_tup, ↓s_lst, ↓s_lstC, ↓s_frz, ↓s_call, ↓s_meth, ↓s_mk, ↓s_mkK, ↓s_attr, ↓s_tr, ↓s_tb, ↓s_and, ↓s_or, ↓s_not, ↓s_andV, ↓s_orV, ↓s_notV, ↓s_ifE, ↓s_chain, ↓s_B, ↓s_isT, ↓s_isC, ↓s_none, ↓s_some, ↓s_sl, ↓s_app, ↓s_any, ↓s_r1, ↓s_r2, ↓s_r3, ↓s_zip, ↓s_rev, ↓s_enum, ↓s_bm, ↓s_callO, ↓s_prop, ↓s_yes,
      ↓q_expr, ↓q_ret, ↓q_retN, ↓q_if, ↓q_break, ↓q_cont, ↓q_never, ↓q_asg, ↓q_par, ↓q_aug, ↓q_sub, ↓q_fld, ↓q_frz, ↓q_frz2, ↓q_mv, ↓q_while,
      GV_s, ofO_s, ofO_n, br_t, br_f, sat_ok, sat_bad, sat_ite, tupR, lstR, lstCR, tbR, isTR, isCR, someR, itR,
      plainL, frz, seqOf, opIx, opSub, opMul, opDiv, opMod, opPow18, opNeg, opAdd, lstOf, eqS, opEqS, opNeS, opEqG, opNeG, opLt, opLe, opGt, opGe, isN, opIs, opIsNot, isC, attr, tru, truO_bl, truO_int, truO_tup, truO_lst, truO_non, gLen, gAbs, gMax2, gMin2, gInt, gStr, lsOf, gTuple, gList, gListC, gMax1, gSum, gSort, gAny, gAll, intsL_map, boolsL_map, intsL, boolsL, Option.bind_some, Option.map_some, tyOf, isT, slc, opO, unO, gNm, gNil, gCons, gTp, uns, setIx, W.lowB, setAt, app, isLc, itemsOf, rg1, rg2, rg3, zipO, revO, enumO, tyS, ofP, putL, gPop, gExtend, gSIndex, gSFind, gSJoin, gInsert, gBool, lstW, eqO, okT, mv, cutR_d, atI_0, atI_1, atI_2, atI_3, atI_4, atI_5, atI_6, atI_7, ixN_0, ixN_1, ixN_2, ixN_3, ixN_4, ixN_5, ixN_6, ixN_7,
      List.getElem?_cons_zero, List.getElem?_cons_succ, List.set_cons_zero, List.set_cons_succ, List.getElem?_nil, List.length_cons, List.length_nil, List.length_append, List.length_set, List.length_map, List.map_cons, List.map_nil, List.map_append, List.append_nil, List.nil_append, List.cons_append, List.replicate, Option.some.injEq, dec_t, if_true, if_false, ite_true, ite_false, reduceIte, reduceCtorEq, Nat.reduceSub, Nat.reduceAdd, Nat.reduceLT, Nat.reduceLeDiff, Nat.reduceEqDiff, Int.reduceEq, Int.reduceNe, Int.reduceLE, Int.reduceLT, Int.reduceAdd, Int.reduceSub, Int.reduceMul, Int.reduceNeg, Bool.false_eq_true, Bool.not_eq_true', Bool.not_true, Bool.not_false, decide_true, decide_false, beq_self_eq_true, ne_eq, not_true_eq_false, not_false_eq_true, true_and, and_true, and_self, false_and, and_false])
local macro_rules
  | `(tactic| simp_all! [$xs,*]) => `(tactic| (rw [rs_seq]; simp! [$xs,*]))
local macro_rules
  | `(tactic| simp_all!) => `(tactic| (rw [rs_seq]; simp!))

namespace Lw
open PySem PySem.Spec PyProof.Rows L2 Py
abbrev i_shared_part : Nat := 0
abbrev i_Ratio___init__ : Nat := 1
abbrev i_Ratio___add__ : Nat := 2
abbrev i_Ratio___sub__ : Nat := 3
abbrev i_Ratio___mul__ : Nat := 4
abbrev i_Ratio___neg__ : Nat := 5
abbrev i_Ratio___eq__ : Nat := 6
abbrev i_Ratio___bool__ : Nat := 7
abbrev i_Ratio_text : Nat := 8
abbrev i_write_part : Nat := 9
abbrev i_write_sum : Nat := 10
abbrev i__law_feed : Nat := 11
abbrev i__law_draw : Nat := 12
abbrev i__law_great : Nat := 13
abbrev i__law_pair : Nat := 14
abbrev i__law_is_integer : Nat := 15
abbrev i__law_same : Nat := 16
abbrev i__law_leaf : Nat := 17
abbrev i__law_joined : Nat := 18
abbrev i__law_bush : Nat := 19
abbrev i__law_chain : Nat := 20
abbrev i__law_wide_term : Nat := 21
abbrev i__law_term : Nat := 22
abbrev i__law_made : Nat := 23
abbrev i__law_text : Nat := 24
abbrev i__law_part : Nat := 25
abbrev i__law_write : Nat := 26
abbrev i__law_same_term : Nat := 27
abbrev i_law : Nat := 28
abbrev L_nm : List (Nat × Str × Nat) := [(i_shared_part, ("shared_part" : Str), 2), (i_write_part, ("write_part" : Str), 2), (i_write_sum, ("write_sum" : Str), 1), (i__law_feed, ("_law_feed" : Str), 1), (i__law_draw, ("_law_draw" : Str), 2), (i__law_great, ("_law_great" : Str), 2), (i__law_pair, ("_law_pair" : Str), 2), (i__law_is_integer, ("_law_is_integer" : Str), 1), (i__law_same, ("_law_same" : Str), 2), (i__law_leaf, ("_law_leaf" : Str), 2), (i__law_joined, ("_law_joined" : Str), 3), (i__law_bush, ("_law_bush" : Str), 2), (i__law_chain, ("_law_chain" : Str), 3), (i__law_wide_term, ("_law_wide_term" : Str), 2), (i__law_term, ("_law_term" : Str), 1), (i__law_made, ("_law_made" : Str), 1), (i__law_text, ("_law_text" : Str), 1), (i__law_part, ("_law_part" : Str), 2), (i__law_write, ("_law_write" : Str), 1), (i__law_same_term, ("_law_same_term" : Str), 2), (i_law, ("law" : Str), 1)]
abbrev L_mt : List (Nat × Nat × Str × Nat) := [(i_Ratio___add__, 0, ("__add__" : Str), 2), (i_Ratio___sub__, 0, ("__sub__" : Str), 2), (i_Ratio___mul__, 0, ("__mul__" : Str), 2), (i_Ratio___neg__, 0, ("__neg__" : Str), 1), (i_Ratio___eq__, 0, ("__eq__" : Str), 2), (i_Ratio___bool__, 0, ("__bool__" : Str), 1), (i_Ratio_text, 0, ("text" : Str), 1)]
abbrev L_ini : List (Nat × Str × Nat × Nat × List (List V)) := [(0, ("Ratio" : Str), i_Ratio___init__, 3, [[]])]
abbrev L_kw : List (Nat × Str × Nat × Nat × Nat × List Str) := []
abbrev L_prop : List (Nat × Nat × Str) := []
abbrev L_con : List (Str × V) := []
abbrev L_dct : List (Str × List (Str × Int)) := [(("LEVELS" : Str), [(("plus" : Str), 0), (("row" : Str), 1), (("star" : Str), 2), (("number" : Str), 3), (("letter" : Str), 3)])]
abbrev L_cn : List (Str × Nat) := [(("Ratio" : Str), 0)]
abbrev L_xn : List (Str × Nat) := []
def SG : Sg where
  fl := fun c => ([(0, [("top" : Str), ("bottom" : Str)])] : List (Nat × List Str)).lookup c |>.getD []
  nm := fun f => L_nm.lookup f
  mt := fun f => L_mt.lookup f
  ini := fun c => L_ini.lookup c
  kw := fun c => L_kw.lookup c
  prop := fun f => L_prop.lookup f
  blt := fun x => ([("abs" : Str), ("bool" : Str), ("int" : Str), ("isinstance" : Str), ("len" : Str), ("max" : Str), ("range" : Str), ("str" : Str), ("tuple" : Str)] : List Str).contains x
  con := fun x => L_con.lookup x
  dct := fun x => L_dct.lookup x
  cn := fun x => L_cn.lookup x
  sub := fun a b => a == b
  xn := fun x => L_xn.lookup x
  xs := fun a b => ([] : List (Nat × Nat)).contains (a, b)
noncomputable def c_shared_part (F Fi : FnTab) : DS := (sSeq (sWhile WF [] (dTb (dOp opNeG (dVar 1) (dC (.int 0)))) (sPar 0 1 (dVar 1) (dOp opMod (dVar 0) (dVar 1)))) (sRet (dVar 0)))
noncomputable def c_Ratio___init__ (F Fi : FnTab) : DS := (sSeq (sIf (dTb (dOp (eqO F 0 i_Ratio___eq__ opEqG) (dVar 2) (dC (.int 0)))) sNever sPass) (sSeq (sIf (dTb (dOp opLt (dVar 2) (dC (.int 0)))) (sPar 1 2 (dUn (unO F 0 i_Ratio___neg__ opNeg) (dVar 1)) (dUn (unO F 0 i_Ratio___neg__ opNeg) (dVar 2))) sPass) (sSeq (sAsg (dCall F i_shared_part 2 (dCons (dB gAbs (dCons (dVar 1) dNil)) (dCons (dVar 2) dNil))) (gNm 3)) (sSeq (sFldD 0 0 (dOp opDiv (dVar 1) (dVar 3)) (dVar 0)) (sFldD 0 1 (dOp opDiv (dVar 2) (dVar 3)) (dVar 0))))))
noncomputable def c_Ratio___add__ (F Fi : FnTab) : DS := (sRet (dMk (mkF Fi 0 i_Ratio___init__ 3 2) [] (dCons (dOp (opO F 0 i_Ratio___add__ opAdd) (dOp (opO F 0 i_Ratio___mul__ opMul) (dAttr 0 0 (dVar 0)) (dAttr 0 1 (dVar 1))) (dOp (opO F 0 i_Ratio___mul__ opMul) (dAttr 0 0 (dVar 1)) (dAttr 0 1 (dVar 0)))) (dCons (dOp (opO F 0 i_Ratio___mul__ opMul) (dAttr 0 1 (dVar 0)) (dAttr 0 1 (dVar 1))) dNil))))
noncomputable def c_Ratio___sub__ (F Fi : FnTab) : DS := (sRet (dMk (mkF Fi 0 i_Ratio___init__ 3 2) [] (dCons (dOp (opO F 0 i_Ratio___sub__ opSub) (dOp (opO F 0 i_Ratio___mul__ opMul) (dAttr 0 0 (dVar 0)) (dAttr 0 1 (dVar 1))) (dOp (opO F 0 i_Ratio___mul__ opMul) (dAttr 0 0 (dVar 1)) (dAttr 0 1 (dVar 0)))) (dCons (dOp (opO F 0 i_Ratio___mul__ opMul) (dAttr 0 1 (dVar 0)) (dAttr 0 1 (dVar 1))) dNil))))
noncomputable def c_Ratio___mul__ (F Fi : FnTab) : DS := (sRet (dMk (mkF Fi 0 i_Ratio___init__ 3 2) [] (dCons (dOp (opO F 0 i_Ratio___mul__ opMul) (dAttr 0 0 (dVar 0)) (dAttr 0 0 (dVar 1))) (dCons (dOp (opO F 0 i_Ratio___mul__ opMul) (dAttr 0 1 (dVar 0)) (dAttr 0 1 (dVar 1))) dNil))))
noncomputable def c_Ratio___neg__ (F Fi : FnTab) : DS := (sRet (dMk (mkF Fi 0 i_Ratio___init__ 3 2) [] (dCons (dUn (unO F 0 i_Ratio___neg__ opNeg) (dAttr 0 0 (dVar 0))) (dCons (dAttr 0 1 (dVar 0)) dNil))))
noncomputable def c_Ratio___eq__ (F Fi : FnTab) : DS := (sRet (dAndV (dIsC SG.sub 0 (dVar 1)) (dAndV (dOp (eqO F 0 i_Ratio___eq__ opEqG) (dAttr 0 0 (dVar 0)) (dAttr 0 0 (dVar 1))) (dOp (eqO F 0 i_Ratio___eq__ opEqG) (dAttr 0 1 (dVar 0)) (dAttr 0 1 (dVar 1))))))
noncomputable def c_Ratio___bool__ (F Fi : FnTab) : DS := (sRet (dOp opNeG (dAttr 0 0 (dVar 0)) (dC (.int 0))))
noncomputable def c_Ratio_text (F Fi : FnTab) : DS := (sSeq (sIf (dTb (dOp (eqO F 0 i_Ratio___eq__ opEqG) (dAttr 0 1 (dVar 0)) (dC (.int 1)))) (sRet (dB gStr (dCons (dAttr 0 0 (dVar 0)) dNil))) sPass) (sRet (dOp (opO F 0 i_Ratio___add__ opAdd) (dOp (opO F 0 i_Ratio___add__ opAdd) (dB gStr (dCons (dAttr 0 0 (dVar 0)) dNil)) (dC (.str "/"))) (dB gStr (dCons (dAttr 0 1 (dVar 0)) dNil)))))
noncomputable def c_write_part (F Fi : FnTab) : DS := (sSeq (sAsg (dCall F i_write_sum 1 (dCons (dVar 0) dNil)) (gNm 2)) (sSeq (sIf (dTb (dOp opLt (dTbl [(("plus" : Str), 0), (("row" : Str), 1), (("star" : Str), 2), (("number" : Str), 3), (("letter" : Str), 3)] (dOp opIx (dVar 0) (dC (.int 0)))) (dVar 1))) (sRet (dOp (opO F 0 i_Ratio___add__ opAdd) (dOp (opO F 0 i_Ratio___add__ opAdd) (dC (.str "(")) (dVar 2)) (dC (.str ")")))) sPass) (sRet (dVar 2))))
noncomputable def c_write_sum (F Fi : FnTab) : DS := (sSeq (sIf (dTb (dOp (eqO F 0 i_Ratio___eq__ opEqG) (dOp opIx (dVar 0) (dC (.int 0))) (dC (.str "number")))) (sRet (dMeth F 0 i_Ratio_text 1 (dOp opIx (dVar 0) (dC (.int 1))) dNil)) sPass) (sSeq (sIf (dTb (dOp (eqO F 0 i_Ratio___eq__ opEqG) (dOp opIx (dVar 0) (dC (.int 0))) (dC (.str "letter")))) (sRet (dOp opIx (dVar 0) (dC (.int 1)))) sPass) (sSeq (sIf (dTb (dOp (eqO F 0 i_Ratio___eq__ opEqG) (dOp opIx (dVar 0) (dC (.int 0))) (dC (.str "plus")))) (sRet (dOp (opO F 0 i_Ratio___add__ opAdd) (dOp (opO F 0 i_Ratio___add__ opAdd) (dCall F i_write_part 2 (dCons (dOp opIx (dVar 0) (dC (.int 1))) (dCons (dC (.int 0)) dNil))) (dC (.str "+"))) (dCall F i_write_part 2 (dCons (dOp opIx (dVar 0) (dC (.int 2))) (dCons (dC (.int 1)) dNil))))) sPass) (sSeq (sIf (dTb (dOp (eqO F 0 i_Ratio___eq__ opEqG) (dOp opIx (dVar 0) (dC (.int 0))) (dC (.str "row")))) (sRet (dOp (opO F 0 i_Ratio___add__ opAdd) (dOp (opO F 0 i_Ratio___add__ opAdd) (dCall F i_write_part 2 (dCons (dOp opIx (dVar 0) (dC (.int 1))) (dCons (dC (.int 1)) dNil))) (dC (.str "."))) (dCall F i_write_part 2 (dCons (dOp opIx (dVar 0) (dC (.int 2))) (dCons (dC (.int 2)) dNil))))) sPass) (sRet (dOp (opO F 0 i_Ratio___add__ opAdd) (dCall F i_write_part 2 (dCons (dOp opIx (dVar 0) (dC (.int 1))) (dCons (dC (.int 2)) dNil))) (dC (.str "*"))))))))
noncomputable def c__law_feed (F Fi : FnTab) : DS := (sRet (dLstC (dCons (dComp [1] (gNm 1) (iAny (dSl (dVar 0) oNone (oSome (dC (.int 63))))) tYesD (dB gAbs (dCons (dVar 1) dNil))) (dCons (dC (.int 0)) (dCons (dC (.int 0)) (dCons (dOp (opO F 0 i_Ratio___add__ opAdd) (dC (.int 7)) (dB gLen (dCons (dVar 0) dNil))) dNil))))))
noncomputable def c__law_draw (F Fi : FnTab) : DS := (sSeq (sAsg (dOp opIx (dVar 0) (dC (.int 0))) (gNm 2)) (sSeq (sIf (dAnd (dTb (dOp (eqO F 0 i_Ratio___eq__ opEqG) (dOp opIx (dVar 0) (dC (.int 2))) (dC (.int 0)))) (dTb (dOp opLt (dOp opIx (dVar 0) (dC (.int 1))) (dB gLen (dCons (dVar 2) dNil))))) (sSeq (sAsg (dOp opIx (dVar 2) (dOp opIx (dVar 0) (dC (.int 1)))) (gNm 3)) (sSeq (sSub (dOp (opO F 0 i_Ratio___add__ opAdd) (dOp opIx (dVar 0) (dC (.int 1))) (dC (.int 1))) (dVar 0) (dC (.int 1))) (sIf (dTb (dOp opGe (dVar 3) (dOp opPow (dC (.int 10)) (dC (.int 18))))) (sSub (dVar 3) (dVar 0) (dC (.int 2))) (sSub (dOp opMod (dB gInt (dCons (dOp (opO F 0 i_Ratio___add__ opAdd) (dOp (opO F 0 i_Ratio___add__ opAdd) (dOp (opO F 0 i_Ratio___mul__ opMul) (dOp opIx (dVar 0) (dC (.int 3))) (dC (.int 48271))) (dOp (opO F 0 i_Ratio___mul__ opMul) (dVar 3) (dC (.int 69621)))) (dC (.int 11))) dNil)) (dC (.int 2147483647))) (dVar 0) (dC (.int 3)))))) sPass) (sSeq (sIf (dTb (dOp opGt (dOp opIx (dVar 0) (dC (.int 2))) (dC (.int 0)))) (sSeq (sAsg (dOp opMod (dB gInt (dCons (dOp opIx (dVar 0) (dC (.int 2))) dNil)) (dVar 1)) (gNm 4)) (sSeq (sSub (dOp opDiv (dOp opIx (dVar 0) (dC (.int 2))) (dVar 1)) (dVar 0) (dC (.int 2))) (sRet (dVar 4)))) sPass) (sSeq (sSub (dOp opMod (dB gInt (dCons (dOp (opO F 0 i_Ratio___add__ opAdd) (dOp (opO F 0 i_Ratio___mul__ opMul) (dOp opIx (dVar 0) (dC (.int 3))) (dC (.int 16807))) (dC (.int 12345))) dNil)) (dC (.int 2147483629))) (dVar 0) (dC (.int 3))) (sRet (dOp opMod (dB gInt (dCons (dOp (opO F 0 i_Ratio___add__ opAdd) (dOp opDiv (dOp (opO F 0 i_Ratio___mul__ opMul) (dOp opIx (dVar 0) (dC (.int 3))) (dOp opIx (dVar 0) (dC (.int 3)))) (dC (.int 1024))) (dOp opDiv (dOp opIx (dVar 0) (dC (.int 3))) (dC (.int 65536)))) dNil)) (dVar 1)))))))
noncomputable def c__law_great (F Fi : FnTab) : DS := (sSeq (sAsg (dC (.int 0)) (gNm 2)) (sSeq (sFor [1, 3] (gNm 3) (iRange1 (dVar 1)) (sAsg (dOp (opO F 0 i_Ratio___add__ opAdd) (dOp (opO F 0 i_Ratio___mul__ opMul) (dVar 2) (dC (.int 100000))) (dCall F i__law_draw 2 (dCons (dVar 0) (dCons (dC (.int 100000)) dNil)))) (gNm 2))) (sRet (dVar 2))))
noncomputable def c__law_pair (F Fi : FnTab) : DS := (sSeq (sAsg (dB gAbs (dCons (dVar 0) dNil)) (gNm 2)) (sSeq (sAsg (dB gAbs (dCons (dVar 1) dNil)) (gNm 3)) (sSeq (sWhile WF [] (dTb (dOp opGt (dVar 3) (dC (.int 0)))) (sPar 2 3 (dVar 3) (dOp opMod (dB gInt (dCons (dVar 2) dNil)) (dVar 3)))) (sSeq (sIf (dTb (dOp opLt (dVar 1) (dC (.int 0)))) (sAsg (dOp (opO F 0 i_Ratio___sub__ opSub) (dC (.int 0)) (dVar 2)) (gNm 2)) sPass) (sRet (dTup (dCons (dOp opDiv (dVar 0) (dVar 2)) (dCons (dOp opDiv (dVar 1) (dVar 2)) dNil))))))))
noncomputable def c__law_is_integer (F Fi : FnTab) : DS := (sRet (dAndV (dIsT Ty.int (dVar 0)) (dNotV (dIsT Ty.bl (dVar 0)))))
noncomputable def c__law_same (F Fi : FnTab) : DS := (sSeq (sIf (dNot (dTr (truO F 0 i_Ratio___bool__) (dIsC SG.sub 0 (dVar 0)))) (sRet (dC (.bl false))) sPass) (sSeq (sIf (dOr (dNot (dTr (truO F 0 i_Ratio___bool__) (dCall F i__law_is_integer 1 (dCons (dAttr 0 0 (dVar 0)) dNil)))) (dNot (dTr (truO F 0 i_Ratio___bool__) (dCall F i__law_is_integer 1 (dCons (dAttr 0 1 (dVar 0)) dNil))))) (sRet (dC (.bl false))) sPass) (sRet (dAndV (dOp (eqO F 0 i_Ratio___eq__ opEqG) (dAttr 0 0 (dVar 0)) (dOp opIx (dVar 1) (dC (.int 0)))) (dOp (eqO F 0 i_Ratio___eq__ opEqG) (dAttr 0 1 (dVar 0)) (dOp opIx (dVar 1) (dC (.int 1))))))))
noncomputable def c__law_leaf (F Fi : FnTab) : DS := (sSeq (sAsg (dCall F i__law_draw 2 (dCons (dVar 0) (dCons (dC (.int 4)) dNil))) (gNm 2)) (sSeq (sIf (dTb (dOp opLt (dVar 2) (dC (.int 2)))) (sRet (dTup (dCons (dC (.str "letter")) (dCons (dOp opIx (dC (.str "abcd")) (dCall F i__law_draw 2 (dCons (dVar 0) (dCons (dC (.int 4)) dNil)))) dNil)))) sPass) (sSeq (sIf (dTb (dOp (eqO F 0 i_Ratio___eq__ opEqG) (dVar 2) (dC (.int 2)))) (sRet (dTup (dCons (dC (.str "number")) (dCons (dTup (dCons (dOp (opO F 0 i_Ratio___sub__ opSub) (dCall F i__law_draw 2 (dCons (dVar 0) (dCons (dC (.int 13)) dNil))) (dC (.int 6))) (dCons (dC (.int 1)) dNil))) dNil)))) sPass) (sSeq (sIf (dTb (dOp opGt (dVar 1) (dC (.int 0)))) (sSeq (sAsg (dOp (opO F 0 i_Ratio___mul__ opMul) (dCall F i__law_great 2 (dCons (dVar 0) (dCons (dVar 1) dNil))) (dOp (opO F 0 i_Ratio___sub__ opSub) (dC (.int 1)) (dOp (opO F 0 i_Ratio___mul__ opMul) (dC (.int 2)) (dCall F i__law_draw 2 (dCons (dVar 0) (dCons (dC (.int 2)) dNil)))))) (gNm 3)) (sRet (dTup (dCons (dC (.str "number")) (dCons (dCall F i__law_pair 2 (dCons (dVar 3) (dCons (dB gMax2 (dCons (dC (.int 1)) (dCons (dCall F i__law_great 2 (dCons (dVar 0) (dCons (dVar 1) dNil))) dNil))) dNil))) dNil))))) sPass) (sRet (dTup (dCons (dC (.str "number")) (dCons (dCall F i__law_pair 2 (dCons (dOp (opO F 0 i_Ratio___sub__ opSub) (dCall F i__law_draw 2 (dCons (dVar 0) (dCons (dC (.int 25)) dNil))) (dC (.int 12))) (dCons (dOp (opO F 0 i_Ratio___add__ opAdd) (dC (.int 1)) (dCall F i__law_draw 2 (dCons (dVar 0) (dCons (dC (.int 12)) dNil)))) dNil))) dNil))))))))
noncomputable def c__law_joined (F Fi : FnTab) : DS := (sRet (dTup (dCons (dOp opIx (dLst (dCons (dC (.str "plus")) (dCons (dC (.str "row")) dNil))) (dCall F i__law_draw 2 (dCons (dVar 0) (dCons (dC (.int 2)) dNil)))) (dCons (dVar 1) (dCons (dVar 2) dNil)))))
noncomputable def c__law_bush (F Fi : FnTab) : DS := (sSeq (sAsg (dCompC [5] (gNm 5) (iRange1 (dOp (opO F 0 i_Ratio___add__ opAdd) (dC (.int 1)) (dCall F i__law_draw 2 (dCons (dVar 0) (dCons (dC (.int 10)) dNil))))) tYesD (dCall F i__law_leaf 2 (dCons (dVar 0) (dCons (dVar 1) dNil)))) (gNm 2)) (sSeq (sFor [1, 3, 4, 5] (gNm 3) (iRange1 (dC (.int 9))) (sSeq (sIf (dTb (dOp (eqO F 0 i_Ratio___eq__ opEqG) (dCall F i__law_draw 2 (dCons (dVar 0) (dCons (dC (.int 3)) dNil))) (dC (.int 0)))) (sSeq (sAsg (dCall F i__law_draw 2 (dCons (dVar 0) (dCons (dB gLen (dCons (dVar 2) dNil)) dNil))) (gNm 4)) (sSub (dTup (dCons (dC (.str "star")) (dCons (dOp opIx (dVar 2) (dVar 4)) dNil))) (dVar 2) (dVar 4))) sPass) (sIf (dTb (dOp opGt (dB gLen (dCons (dVar 2) dNil)) (dC (.int 1)))) (sSeq (sAsg (dCall F i__law_draw 2 (dCons (dVar 0) (dCons (dOp (opO F 0 i_Ratio___sub__ opSub) (dB gLen (dCons (dVar 2) dNil)) (dC (.int 1))) dNil))) (gNm 4)) (sAsg (dOp opAddC (dOp (opO F 0 i_Ratio___add__ opAdd) (dSl (dVar 2) oNone (oSome (dVar 4))) (dLst (dCons (dCall F i__law_joined 3 (dCons (dVar 0) (dCons (dOp opIx (dVar 2) (dVar 4)) (dCons (dOp opIx (dVar 2) (dOp (opO F 0 i_Ratio___add__ opAdd) (dVar 4) (dC (.int 1)))) dNil)))) dNil))) (dSl (dVar 2) (oSome (dOp (opO F 0 i_Ratio___add__ opAdd) (dVar 4) (dC (.int 2)))) oNone)) (gNm 2))) sPass))) (sFrz 2 (sRet (dOp opIx (dVar 2) (dC (.int 0)))))))
noncomputable def c__law_chain (F Fi : FnTab) : DS := (sSeq (sAsg (dCall F i__law_leaf 2 (dCons (dVar 0) (dCons (dVar 1) dNil))) (gNm 3)) (sSeq (sFor [2, 4, 5] (gNm 4) (iRange1 (dVar 2)) (sSeq (sAsg (dCall F i__law_draw 2 (dCons (dVar 0) (dCons (dC (.int 3)) dNil))) (gNm 5)) (sIf (dTb (dOp (eqO F 0 i_Ratio___eq__ opEqG) (dVar 5) (dC (.int 0)))) (sAsg (dTup (dCons (dC (.str "star")) (dCons (dVar 3) dNil))) (gNm 3)) (sIf (dTb (dOp (eqO F 0 i_Ratio___eq__ opEqG) (dVar 5) (dC (.int 1)))) (sAsg (dCall F i__law_joined 3 (dCons (dVar 0) (dCons (dVar 3) (dCons (dCall F i__law_leaf 2 (dCons (dVar 0) (dCons (dVar 1) dNil))) dNil)))) (gNm 3)) (sAsg (dCall F i__law_joined 3 (dCons (dVar 0) (dCons (dCall F i__law_leaf 2 (dCons (dVar 0) (dCons (dVar 1) dNil))) (dCons (dVar 3) dNil)))) (gNm 3)))))) (sRet (dVar 3))))
noncomputable def c__law_wide_term (F Fi : FnTab) : DS := (sSeq (sAsg (dComp [5] (gNm 5) (iRange1 (dC (.int 30))) tYesD (dCall F i__law_leaf 2 (dCons (dVar 0) (dCons (dVar 1) dNil)))) (gNm 2)) (sSeq (sFor [1, 3, 4] (gNm 3) (iRange1 (dC (.int 5))) (sSeq (sAsg (dComp [5] (gNm 5) (iRangeS (dC (.int 0)) (dB gLen (dCons (dVar 2) dNil)) (dC (.int 2))) tYesD (dSl (dVar 2) (oSome (dVar 5)) (oSome (dOp (opO F 0 i_Ratio___add__ opAdd) (dVar 5) (dC (.int 2)))))) (gNm 4)) (sAsg (dOp (opO F 0 i_Ratio___add__ opAdd) (dComp [6] (gNm 6) (iAny (dVar 4)) (dTb (dOp (eqO F 0 i_Ratio___eq__ opEqG) (dB gLen (dCons (dVar 6) dNil)) (dC (.int 2)))) (dCall F i__law_joined 3 (dCons (dVar 0) (dCons (dOp opIx (dVar 6) (dC (.int 0))) (dCons (dOp opIx (dVar 6) (dUn opNeg (dC (.int 1)))) dNil))))) (dSl (dVar 2) (oSome (dOp (opO F 0 i_Ratio___mul__ opMul) (dOp opDiv (dB gLen (dCons (dVar 2) dNil)) (dC (.int 2))) (dC (.int 2)))) oNone)) (gNm 2)))) (sRet (dOp opIx (dVar 2) (dC (.int 0))))))
noncomputable def c__law_term (F Fi : FnTab) : DS := (sSeq (sAsg (dOp (opO F 0 i_Ratio___mul__ opMul) (dC (.int 8)) (dB gInt (dCons (dOp (eqO F 0 i_Ratio___eq__ opEqG) (dCall F i__law_draw 2 (dCons (dVar 0) (dCons (dC (.int 4)) dNil))) (dC (.int 0))) dNil))) (gNm 1)) (sSeq (sAsg (dCall F i__law_draw 2 (dCons (dVar 0) (dCons (dC (.int 8)) dNil))) (gNm 2)) (sSeq (sIf (dTb (dOp (eqO F 0 i_Ratio___eq__ opEqG) (dVar 2) (dC (.int 0)))) (sRet (dCall F i__law_chain 3 (dCons (dVar 0) (dCons (dVar 1) (dCons (dC (.int 19)) dNil))))) sPass) (sSeq (sIf (dTb (dOp opLt (dVar 2) (dC (.int 3)))) (sRet (dCall F i__law_chain 3 (dCons (dVar 0) (dCons (dVar 1) (dCons (dCall F i__law_draw 2 (dCons (dVar 0) (dCons (dC (.int 8)) dNil))) dNil))))) sPass) (sSeq (sIf (dTb (dOp (eqO F 0 i_Ratio___eq__ opEqG) (dVar 2) (dC (.int 3)))) (sRet (dCall F i__law_wide_term 2 (dCons (dVar 0) (dCons (dVar 1) dNil)))) sPass) (sRet (dCall F i__law_bush 2 (dCons (dVar 0) (dCons (dVar 1) dNil)))))))))
noncomputable def c__law_made (F Fi : FnTab) : DS := (sSeq (sIf (dTb (dOp (eqO F 0 i_Ratio___eq__ opEqG) (dOp opIx (dVar 0) (dC (.int 0))) (dC (.str "number")))) (sRet (dTup (dCons (dC (.str "number")) (dCons (dMk (mkF Fi 0 i_Ratio___init__ 3 2) [] (dCons (dOp opIx (dOp opIx (dVar 0) (dC (.int 1))) (dC (.int 0))) (dCons (dOp opIx (dOp opIx (dVar 0) (dC (.int 1))) (dC (.int 1))) dNil))) dNil)))) sPass) (sSeq (sIf (dTb (dOp (eqO F 0 i_Ratio___eq__ opEqG) (dOp opIx (dVar 0) (dC (.int 0))) (dC (.str "letter")))) (sRet (dVar 0)) sPass) (sSeq (sIf (dTb (dOp (eqO F 0 i_Ratio___eq__ opEqG) (dOp opIx (dVar 0) (dC (.int 0))) (dC (.str "star")))) (sRet (dTup (dCons (dC (.str "star")) (dCons (dCall F i__law_made 1 (dCons (dOp opIx (dVar 0) (dC (.int 1))) dNil)) dNil)))) sPass) (sRet (dTup (dCons (dOp opIx (dVar 0) (dC (.int 0))) (dCons (dCall F i__law_made 1 (dCons (dOp opIx (dVar 0) (dC (.int 1))) dNil)) (dCons (dCall F i__law_made 1 (dCons (dOp opIx (dVar 0) (dC (.int 2))) dNil)) dNil))))))))
noncomputable def c__law_text (F Fi : FnTab) : DS := (sSeq (sIf (dTb (dOp (eqO F 0 i_Ratio___eq__ opEqG) (dOp opIx (dVar 0) (dC (.int 1))) (dC (.int 1)))) (sRet (dB gStr (dCons (dOp opIx (dVar 0) (dC (.int 0))) dNil))) sPass) (sRet (dOp (opO F 0 i_Ratio___add__ opAdd) (dOp (opO F 0 i_Ratio___add__ opAdd) (dB gStr (dCons (dOp opIx (dVar 0) (dC (.int 0))) dNil)) (dC (.str "/"))) (dB gStr (dCons (dOp opIx (dVar 0) (dC (.int 1))) dNil)))))
noncomputable def c__law_part (F Fi : FnTab) : DS := (sSeq (sIf (dTb (dOp opIn (dOp opIx (dVar 0) (dC (.int 0))) (dVar 1))) (sRet (dOp (opO F 0 i_Ratio___add__ opAdd) (dOp (opO F 0 i_Ratio___add__ opAdd) (dC (.str "(")) (dCall F i__law_write 1 (dCons (dVar 0) dNil))) (dC (.str ")")))) sPass) (sRet (dCall F i__law_write 1 (dCons (dVar 0) dNil))))
noncomputable def c__law_write (F Fi : FnTab) : DS := (sSeq (sIf (dTb (dOp (eqO F 0 i_Ratio___eq__ opEqG) (dOp opIx (dVar 0) (dC (.int 0))) (dC (.str "number")))) (sRet (dCall F i__law_text 1 (dCons (dOp opIx (dVar 0) (dC (.int 1))) dNil))) sPass) (sSeq (sIf (dTb (dOp (eqO F 0 i_Ratio___eq__ opEqG) (dOp opIx (dVar 0) (dC (.int 0))) (dC (.str "letter")))) (sRet (dOp opIx (dVar 0) (dC (.int 1)))) sPass) (sSeq (sIf (dTb (dOp (eqO F 0 i_Ratio___eq__ opEqG) (dOp opIx (dVar 0) (dC (.int 0))) (dC (.str "plus")))) (sRet (dOp (opO F 0 i_Ratio___add__ opAdd) (dOp (opO F 0 i_Ratio___add__ opAdd) (dCall F i__law_write 1 (dCons (dOp opIx (dVar 0) (dC (.int 1))) dNil)) (dC (.str "+"))) (dCall F i__law_part 2 (dCons (dOp opIx (dVar 0) (dC (.int 2))) (dCons (dLst (dCons (dC (.str "plus")) dNil)) dNil))))) sPass) (sSeq (sIf (dTb (dOp (eqO F 0 i_Ratio___eq__ opEqG) (dOp opIx (dVar 0) (dC (.int 0))) (dC (.str "row")))) (sRet (dOp (opO F 0 i_Ratio___add__ opAdd) (dOp (opO F 0 i_Ratio___add__ opAdd) (dCall F i__law_part 2 (dCons (dOp opIx (dVar 0) (dC (.int 1))) (dCons (dLst (dCons (dC (.str "plus")) dNil)) dNil))) (dC (.str "."))) (dCall F i__law_part 2 (dCons (dOp opIx (dVar 0) (dC (.int 2))) (dCons (dLst (dCons (dC (.str "plus")) (dCons (dC (.str "row")) dNil))) dNil))))) sPass) (sRet (dOp (opO F 0 i_Ratio___add__ opAdd) (dCall F i__law_part 2 (dCons (dOp opIx (dVar 0) (dC (.int 1))) (dCons (dLst (dCons (dC (.str "plus")) (dCons (dC (.str "row")) dNil))) dNil))) (dC (.str "*"))))))))
noncomputable def c__law_same_term (F Fi : FnTab) : DS := (sSeq (sAsg (dLstC (dCons (dTup (dCons (dVar 0) (dCons (dVar 1) dNil))) dNil)) (gNm 2)) (sSeq (sWhile WF [0, 1, 3, 4, 5, 6] (dTb (dOp opGt (dB gLen (dCons (dVar 2) dNil)) (dC (.int 0)))) (sSeq (sAsg (dBM "list" gPop (dVar 2) dNil) (gNm 3)) (sSeq (sAsg (dOp opIx (dVar 3) (dC (.int 0))) (gNm 4)) (sSeq (sAsg (dOp opIx (dVar 3) (dC (.int 1))) (gNm 5)) (sSeq (sIf (dOr (dNot (dTr (truO F 0 i_Ratio___bool__) (dIsT Ty.tup (dVar 4)))) (dOr (dTb (dOp opNeG (dB gLen (dCons (dVar 4) dNil)) (dB gLen (dCons (dVar 5) dNil)))) (dOr (dNot (dTr (truO F 0 i_Ratio___bool__) (dIsT Ty.str (dOp opIx (dVar 4) (dC (.int 0)))))) (dTb (dOp opNeG (dOp opIx (dVar 4) (dC (.int 0))) (dOp opIx (dVar 5) (dC (.int 0)))))))) (sRet (dC (.bl false))) sPass) (sIf (dTb (dOp (eqO F 0 i_Ratio___eq__ opEqG) (dOp opIx (dVar 5) (dC (.int 0))) (dC (.str "number")))) (sIf (dNot (dTr (truO F 0 i_Ratio___bool__) (dCall F i__law_same 2 (dCons (dOp opIx (dVar 4) (dC (.int 1))) (dCons (dOp opIx (dVar 5) (dC (.int 1))) dNil))))) (sRet (dC (.bl false))) sPass) (sIf (dTb (dOp (eqO F 0 i_Ratio___eq__ opEqG) (dOp opIx (dVar 5) (dC (.int 0))) (dC (.str "letter")))) (sIf (dOr (dNot (dTr (truO F 0 i_Ratio___bool__) (dIsT Ty.str (dOp opIx (dVar 4) (dC (.int 1)))))) (dTb (dOp opNeG (dOp opIx (dVar 4) (dC (.int 1))) (dOp opIx (dVar 5) (dC (.int 1)))))) (sRet (dC (.bl false))) sPass) (sFor [0, 1, 3, 6] (gNm 6) (iRange2 (dC (.int 1)) (dB gLen (dCons (dVar 5) dNil))) (sExpr (dApp (dVar 2) (dTup (dCons (dOp opIx (dVar 4) (dVar 6)) (dCons (dOp opIx (dVar 5) (dVar 6)) dNil))))))))))))) (sRet (dC (.bl true)))))
noncomputable def c_law (F Fi : FnTab) : DS := (sSeq (sAsg (dCall F i__law_feed 1 (dCons (dVar 0) dNil)) (gNm 1)) (sSeq (sAsg (dLstC dNil) (gNm 2)) (sSeq (sFor [0, 3, 4, 5, 6, 7] (gNm 3) (iRange1 (dC (.int 2))) (sSeq (sAsg (dCall F i__law_term 1 (dCons (dVar 1) dNil)) (gNm 4)) (sExpr (dApp (dVar 2) (dLst (dCons (dVar 4) (dCons (dCall F i__law_made 1 (dCons (dVar 4) dNil)) (dCons (dCall F i__law_write 1 (dCons (dVar 4) dNil)) dNil)))))))) (sSeq (sFrz 2 (sFor [0, 1, 3, 4, 5, 6, 7] (gNm 5) (iRange1 (dC (.int 2))) (sFor [0, 1, 3, 4, 5, 6, 7] (gNm 6) (iAny (dVar 2)) (sSeq (sAsg (dCall F i_write_sum 1 (dCons (dOp opIx (dVar 6) (dC (.int 1))) dNil)) (gNm 7)) (sSeq (sIf (dOr (dNot (dTr (truO F 0 i_Ratio___bool__) (dIsT Ty.str (dVar 7)))) (dTb (dOp opNeG (dVar 7) (dOp opIx (dVar 6) (dC (.int 2)))))) (sRet (dC (.bl false))) sPass) (sIf (dTb (dOp opNeG (dCall F i_write_sum 1 (dCons (dCall F i__law_made 1 (dCons (dOp opIx (dVar 6) (dC (.int 0))) dNil)) dNil)) (dOp opIx (dVar 6) (dC (.int 2))))) (sRet (dC (.bl false))) sPass)))))) (sRet (dAndV (dCall F i__law_same_term 2 (dCons (dOp opIx (dOp opIx (dVar 2) (dC (.int 0))) (dC (.int 1))) (dCons (dOp opIx (dOp opIx (dVar 2) (dC (.int 0))) (dC (.int 0))) dNil))) (dCall F i__law_same_term 2 (dCons (dOp opIx (dOp opIx (dVar 2) (dC (.int 1))) (dC (.int 1))) (dCons (dOp opIx (dOp opIx (dVar 2) (dC (.int 1))) (dC (.int 0))) dNil)))))))))
noncomputable def DEFS : List Def := [⟨i_shared_part, 2, 2, c_shared_part⟩, ⟨i_Ratio___init__, 3, 4, c_Ratio___init__⟩, ⟨i_Ratio___add__, 2, 2, c_Ratio___add__⟩, ⟨i_Ratio___sub__, 2, 2, c_Ratio___sub__⟩, ⟨i_Ratio___mul__, 2, 2, c_Ratio___mul__⟩, ⟨i_Ratio___neg__, 1, 1, c_Ratio___neg__⟩, ⟨i_Ratio___eq__, 2, 2, c_Ratio___eq__⟩, ⟨i_Ratio___bool__, 1, 1, c_Ratio___bool__⟩, ⟨i_Ratio_text, 1, 1, c_Ratio_text⟩, ⟨i_write_part, 2, 3, c_write_part⟩, ⟨i_write_sum, 1, 1, c_write_sum⟩, ⟨i__law_feed, 1, 2, c__law_feed⟩, ⟨i__law_draw, 2, 5, c__law_draw⟩, ⟨i__law_great, 2, 4, c__law_great⟩, ⟨i__law_pair, 2, 4, c__law_pair⟩, ⟨i__law_is_integer, 1, 1, c__law_is_integer⟩, ⟨i__law_same, 2, 2, c__law_same⟩, ⟨i__law_leaf, 2, 4, c__law_leaf⟩, ⟨i__law_joined, 3, 3, c__law_joined⟩, ⟨i__law_bush, 2, 6, c__law_bush⟩, ⟨i__law_chain, 3, 6, c__law_chain⟩, ⟨i__law_wide_term, 2, 7, c__law_wide_term⟩, ⟨i__law_term, 1, 3, c__law_term⟩, ⟨i__law_made, 1, 1, c__law_made⟩, ⟨i__law_text, 1, 1, c__law_text⟩, ⟨i__law_part, 2, 2, c__law_part⟩, ⟨i__law_write, 1, 1, c__law_write⟩, ⟨i__law_same_term, 2, 7, c__law_same_term⟩, ⟨i_law, 1, 8, c_law⟩]
noncomputable def FT (n : Nat) : FnTab := (tabP DEFS n).1
noncomputable def FI (n : Nat) : FnTab := (tabP DEFS n).2
theorem FT_shared_part (n : Nat) (ws : List W) (S : Sto) : FT (n + 1) i_shared_part ws S = runDef 2 2 (c_shared_part (FT n) (FI n)) ws S := rfl
theorem FT_Ratio___init__ (n : Nat) (ws : List W) (S : Sto) : FT (n + 1) i_Ratio___init__ ws S = runDef 4 3 (c_Ratio___init__ (FT n) (FI n)) ws S := rfl
theorem FT_Ratio___add__ (n : Nat) (ws : List W) (S : Sto) : FT (n + 1) i_Ratio___add__ ws S = runDef 2 2 (c_Ratio___add__ (FT n) (FI n)) ws S := rfl
theorem FT_Ratio___sub__ (n : Nat) (ws : List W) (S : Sto) : FT (n + 1) i_Ratio___sub__ ws S = runDef 2 2 (c_Ratio___sub__ (FT n) (FI n)) ws S := rfl
theorem FT_Ratio___mul__ (n : Nat) (ws : List W) (S : Sto) : FT (n + 1) i_Ratio___mul__ ws S = runDef 2 2 (c_Ratio___mul__ (FT n) (FI n)) ws S := rfl
theorem FT_Ratio___neg__ (n : Nat) (ws : List W) (S : Sto) : FT (n + 1) i_Ratio___neg__ ws S = runDef 1 1 (c_Ratio___neg__ (FT n) (FI n)) ws S := rfl
theorem FT_Ratio___eq__ (n : Nat) (ws : List W) (S : Sto) : FT (n + 1) i_Ratio___eq__ ws S = runDef 2 2 (c_Ratio___eq__ (FT n) (FI n)) ws S := rfl
theorem FT_Ratio___bool__ (n : Nat) (ws : List W) (S : Sto) : FT (n + 1) i_Ratio___bool__ ws S = runDef 1 1 (c_Ratio___bool__ (FT n) (FI n)) ws S := rfl
theorem FT_Ratio_text (n : Nat) (ws : List W) (S : Sto) : FT (n + 1) i_Ratio_text ws S = runDef 1 1 (c_Ratio_text (FT n) (FI n)) ws S := rfl
theorem FT_write_part (n : Nat) (ws : List W) (S : Sto) : FT (n + 1) i_write_part ws S = runDef 3 2 (c_write_part (FT n) (FI n)) ws S := rfl
theorem FT_write_sum (n : Nat) (ws : List W) (S : Sto) : FT (n + 1) i_write_sum ws S = runDef 1 1 (c_write_sum (FT n) (FI n)) ws S := rfl
theorem FT__law_feed (n : Nat) (ws : List W) (S : Sto) : FT (n + 1) i__law_feed ws S = runDef 2 1 (c__law_feed (FT n) (FI n)) ws S := rfl
theorem FT__law_draw (n : Nat) (ws : List W) (S : Sto) : FT (n + 1) i__law_draw ws S = runDef 5 2 (c__law_draw (FT n) (FI n)) ws S := rfl
theorem FT__law_great (n : Nat) (ws : List W) (S : Sto) : FT (n + 1) i__law_great ws S = runDef 4 2 (c__law_great (FT n) (FI n)) ws S := rfl
theorem FT__law_pair (n : Nat) (ws : List W) (S : Sto) : FT (n + 1) i__law_pair ws S = runDef 4 2 (c__law_pair (FT n) (FI n)) ws S := rfl
theorem FT__law_is_integer (n : Nat) (ws : List W) (S : Sto) : FT (n + 1) i__law_is_integer ws S = runDef 1 1 (c__law_is_integer (FT n) (FI n)) ws S := rfl
theorem FT__law_same (n : Nat) (ws : List W) (S : Sto) : FT (n + 1) i__law_same ws S = runDef 2 2 (c__law_same (FT n) (FI n)) ws S := rfl
theorem FT__law_leaf (n : Nat) (ws : List W) (S : Sto) : FT (n + 1) i__law_leaf ws S = runDef 4 2 (c__law_leaf (FT n) (FI n)) ws S := rfl
theorem FT__law_joined (n : Nat) (ws : List W) (S : Sto) : FT (n + 1) i__law_joined ws S = runDef 3 3 (c__law_joined (FT n) (FI n)) ws S := rfl
theorem FT__law_bush (n : Nat) (ws : List W) (S : Sto) : FT (n + 1) i__law_bush ws S = runDef 6 2 (c__law_bush (FT n) (FI n)) ws S := rfl
theorem FT__law_chain (n : Nat) (ws : List W) (S : Sto) : FT (n + 1) i__law_chain ws S = runDef 6 3 (c__law_chain (FT n) (FI n)) ws S := rfl
theorem FT__law_wide_term (n : Nat) (ws : List W) (S : Sto) : FT (n + 1) i__law_wide_term ws S = runDef 7 2 (c__law_wide_term (FT n) (FI n)) ws S := rfl
theorem FT__law_term (n : Nat) (ws : List W) (S : Sto) : FT (n + 1) i__law_term ws S = runDef 3 1 (c__law_term (FT n) (FI n)) ws S := rfl
theorem FT__law_made (n : Nat) (ws : List W) (S : Sto) : FT (n + 1) i__law_made ws S = runDef 1 1 (c__law_made (FT n) (FI n)) ws S := rfl
theorem FT__law_text (n : Nat) (ws : List W) (S : Sto) : FT (n + 1) i__law_text ws S = runDef 1 1 (c__law_text (FT n) (FI n)) ws S := rfl
theorem FT__law_part (n : Nat) (ws : List W) (S : Sto) : FT (n + 1) i__law_part ws S = runDef 2 2 (c__law_part (FT n) (FI n)) ws S := rfl
theorem FT__law_write (n : Nat) (ws : List W) (S : Sto) : FT (n + 1) i__law_write ws S = runDef 1 1 (c__law_write (FT n) (FI n)) ws S := rfl
theorem FT__law_same_term (n : Nat) (ws : List W) (S : Sto) : FT (n + 1) i__law_same_term ws S = runDef 7 2 (c__law_same_term (FT n) (FI n)) ws S := rfl
theorem FT_law (n : Nat) (ws : List W) (S : Sto) : FT (n + 1) i_law ws S = runDef 8 1 (c_law (FT n) (FI n)) ws S := rfl
theorem FI_succ (n : Nat) : FI (n + 1) = FT n := rfl
end Lw
namespace Lw
open PySem PySem.Spec PyProof.Rows L2 Py
structure FeedP (cells : List Int) (a b c : Int) : Prop where
  n : cells.length ≤ 63
  a0 : 0 ≤ a
  b0 : 0 ≤ b
  c0 : 0 ≤ c
  c1 : c < 2147483647
  p : ∀ z ∈ cells, 0 ≤ z
def feedC (cells : List Int) (a b c : Int) : Ce := .lst [.d (.lst (cells.map D.int)), .d (.int a), .d (.int b), .d (.int c)]
def Feed (o : Ce) : Prop := ∃ cells a b c, o = feedC cells a b c ∧ FeedP cells a b c
theorem draw_ok {n i : Nat} {m : Int} {o : Ce} {S : Sto} {Q : W → Sto → Prop} (hn : 1 ≤ n) (ho : S[i]? = some o) (hf : Feed o) (h0 : 0 < m) (h1 : m < 2 ^ 60)
    (h : ∀ r o', 0 ≤ r → r < m → Feed o' → Q (.d (.int r)) (S.set i o')) : (FT n i__law_draw [.c i, .d (.int m)] S).sat Q := by
  obtain ⟨k, rfl⟩ : ∃ k, n = k + 1 := ⟨n - 1, by omega⟩
  obtain ⟨cells, a, b, c, rfl, F⟩ := hf
  have hi : i < S.length := (List.getElem?_eq_some_iff.mp ho).1
  have hm0 : ¬ m = 0 := by omega
  have hmd : ∀ x, Builtin.divisionGoesByPylong x m = false := fun x => divOkS (by omega)
  have g1 : ∀ o' : Ce, (List.set S i o')[i]? = some o' := fun o' => set_get hi
  have m1 : ∀ x, IntMulOk x 48271 := fun x => mulOkR (by decide)
  have m2 : ∀ x, IntMulOk x 69621 := fun x => mulOkR (by decide)
  have m3 : ∀ x, IntMulOk x 16807 := fun x => mulOkR (by decide)
  have d1 : ∀ x, Builtin.divisionGoesByPylong x 1024 = false := fun x => divOkS (by decide)
  have d2 : ∀ x, Builtin.divisionGoesByPylong x 65536 = false := fun x => divOkS (by decide)
  rw [FT__law_draw]
  refine run_sat rfl ?_
  unfold c__law_draw
  simp_all! [ho, feedC]
  refine rs_cut (fun e S1 => ∃ z a b c, e = [some (W.c i), some (W.d (D.int m)), some (W.d (D.lst (List.map D.int cells))), z, none] ∧ S1 = S.set i (feedC cells a b c) ∧ FeedP cells a b c) ?_ ?_
  · have same : ∃ z a' b' c', [some (W.c i), some (W.d (D.int m)), some (W.d (D.lst (List.map D.int cells))), (none : Option W), none] = [some (W.c i), some (W.d (D.int m)), some (W.d (D.lst (List.map D.int cells))), z, none] ∧ S = S.set i (feedC cells a' b' c') ∧ FeedP cells a' b' c' := by
      refine ⟨_, a, b, c, rfl, ?_, F⟩
      exact (set_same ho).symm
    dsimp! [ho, feedC]
    refine br_of (fun hb => ?_) (fun hb => ?_)
    · dsimp! [ho, feedC]
      refine br_of (fun ha => ?_) (fun ha => ?_)
      · obtain ⟨j, rfl⟩ : ∃ j : Nat, a = j := ⟨a.toNat, by have := F.a0; omega⟩
        have hj : j < cells.length := by omega
        have hc : (cells.map D.int |>.map W.d)[j]? = some (W.d (D.int cells[j])) := by simp [hj]
        have hz := F.p cells[j] (List.getElem_mem hj)
        generalize cells[j] = z at hc hz
        simp_all! [ho, feedC, atI_nat hc]
        simp_all! [ho, feedC, g1]
        refine br_of (fun hz1 => ?_) (fun hz1 => ?_)
        · dsimp! [g1, List.set_set]
          exact ⟨_, (j : Int) + 1, z, c, rfl, rfl, ⟨F.n, by omega, hz, F.c0, F.c1, F.p⟩⟩
        · dsimp! [g1, List.set_set, m1, m2]
          exact ⟨_, (j : Int) + 1, b, _, rfl, rfl, ⟨F.n, by omega, F.b0, Int.fmod_nonneg_of_pos _ (by decide), Int.fmod_lt_of_pos _ (by decide), F.p⟩⟩
      · dsimp!; exact same
    · dsimp!; exact same
  · rintro e1 S1 ⟨z, a, b, c, rfl, rfl, F⟩
    refine rs_cut (fun e S2 => e = [some (W.c i), some (W.d (D.int m)), some (W.d (D.lst (List.map D.int cells))), z, none] ∧ S2 = S.set i (feedC cells a b c)) ?_ ?_
    · dsimp! [g1, feedC]
      refine br_of (fun hb => ?_) (fun hb => ?_)
      · dsimp! [g1, feedC, hm0, hmd, List.set_set]
        rw [List.take_of_length_le (by simp)]
        refine h _ _ (Int.fmod_nonneg_of_pos _ h0) (Int.fmod_lt_of_pos _ h0) ⟨cells, a, _, c, rfl, ⟨F.n, F.a0, ?_, F.c0, F.c1, F.p⟩⟩
        rw [Int.fdiv_eq_ediv_of_nonneg _ (by omega)]
        exact Int.ediv_nonneg F.b0 (by omega)
      · dsimp!
        rfl
    · rintro e2 S2 ⟨rfl, rfl⟩
      simp_all! [g1, feedC, m3, List.set_set]
      have h3 := Int.fmod_nonneg_of_pos (c * 16807 + 12345) (b := 2147483629) (by decide)
      have h4 := Int.fmod_lt_of_pos (c * 16807 + 12345) (b := 2147483629) (by decide)
      generalize (c * 16807 + 12345).fmod 2147483629 = c' at h3 h4 ⊢

      dsimp! [g1, feedC, d1, d2, hm0, (mulOkR (by omega) : IntMulOk c' c')]
      rw [List.take_of_length_le (by simp)]
      exact h _ _ (Int.fmod_nonneg_of_pos _ h0) (Int.fmod_lt_of_pos _ h0) ⟨cells, a, b, c', rfl, ⟨F.n, F.a0, F.b0, h3, by omega, F.p⟩⟩
theorem cutL_map {α β : Type} (f : α → β) (xs : List α) (lo hi : Option Int) : cutL (xs.map f) lo hi = (cutL xs lo hi).map f := by
  unfold cutL
  rw [List.length_map, List.map_take, List.map_drop]
theorem cutL_le {α : Type} (xs : List α) (lo hi : Option Int) : (cutL xs lo hi).length ≤ xs.length := by
  unfold cutL
  simp
  omega
theorem feed_ok {n : Nat} {ns : List Int} {S : Sto} {Q : W → Sto → Prop} (hn : 1 ≤ n) (hl : ns.length ≤ 63) (h : ∀ o, Feed o → Q (.c S.length) (S ++ [o])) : (FT n i__law_feed [.d (.lsx (ns.map D.int))] S).sat Q := by
  obtain ⟨n, rfl⟩ : ∃ k, n = k + 1 := ⟨n - 1, by omega⟩
  rw [FT__law_feed]
  refine run_sat rfl ?_
  unfold c__law_feed
  have hc := cutL_le ns none (some 63)
  simp! [cutL_map]
  refine Py.comp_map (fun x => match x with | .d (.int i) => .d (.int i.natAbs) | w => w) ?_ trivial ?_
  · intro x hx
    simp only [List.mem_map] at hx
    obtain ⟨_, ⟨z, _, rfl⟩, rfl⟩ := hx
    refine ⟨_, rfl, ?_⟩
    simp!
    show W.d (.int (if z < 0 then -z else z)) = .d (.int z.natAbs)
    congr 2
    split <;> omega
  · have e : ((cutL ns none (some 63)).map D.int |>.map W.d).map (fun x => match x with | W.d (.int i) => W.d (.int i.natAbs) | w => w) = ((cutL ns none (some 63)).map fun z => D.int z.natAbs).map W.d := by simp
    rw [e]
    refine br_of (fun _ => ?_) (fun h => absurd (show _ ≤ _ by rw [List.length_map, List.length_map]; omega) h)
    rw [plainL_map]
    · have hsz : (4 : Nat) ≤ sizeLine := by decide
      simp! [hsz]
      show (if S.length < S.length then _ else _ : Prop)
      rw [if_neg (Nat.lt_irrefl _)]
      refine h _ ⟨(cutL ns none (some 63)).map fun z => (z.natAbs : Int), 0, 0, 7 + ns.length, ?_, ?_⟩
      · unfold feedC
        simp
      · exact ⟨by simp; omega, by decide, by decide, by omega, by omega, by intro z hz; simp at hz; omega⟩
end Lw

namespace Lw
open PySem PySem.Spec PyProof.Rows L2 Py
/-! fractions in lowest terms -/
abbrev RQ (q : Rat) : D := .obj 0 [.int q.num, .int q.den]
def Sz (k : Nat) (q : Rat) : Prop := q.num.natAbs < 2 ^ k ∧ q.den < 2 ^ k
theorem Sz.mono {k l : Nat} {q : Rat} (h : Sz k q) (hl : k ≤ l) : Sz l q := ⟨Nat.lt_of_lt_of_le h.1 (Nat.pow_le_pow_right (by decide) hl), Nat.lt_of_lt_of_le h.2 (Nat.pow_le_pow_right (by decide) hl)⟩
theorem sz_divInt {k : Nat} {a b : Int} (ha : a.natAbs < 2 ^ k) (hb : b.natAbs < 2 ^ k) (h0 : b ≠ 0) : Sz k (Rat.divInt a b) := by
  constructor
  · rw [Rat.num_divInt]
    refine Nat.lt_of_le_of_lt (Int.natAbs_ediv_le_natAbs _ _) ?_
    rw [Int.natAbs_mul]
    have : b.sign.natAbs = 1 := by
      rcases Int.lt_trichotomy b 0 with h | h | h
      · rw [Int.sign_eq_neg_one_of_neg h]; rfl
      · exact absurd h h0
      · rw [Int.sign_eq_one_of_pos h]; rfl
    rw [this, Nat.one_mul]
    exact ha
  · rw [Rat.den_divInt, if_neg h0]
    exact Nat.lt_of_le_of_lt (Nat.div_le_self _ _) hb
theorem na_mul {a b : Int} {k l : Nat} (ha : a.natAbs < 2 ^ k) (hb : b.natAbs < 2 ^ l) : (a * b).natAbs < 2 ^ (k + l) := by
  rw [Int.natAbs_mul, Nat.pow_add]
  exact Nat.mul_lt_mul'' ha hb
theorem na_add {a b : Int} {k : Nat} (ha : a.natAbs < 2 ^ k) (hb : b.natAbs < 2 ^ k) : (a + b).natAbs < 2 ^ (k + 1) := by
  rw [Nat.pow_succ]
  omega
theorem na_sub {a b : Int} {k : Nat} (ha : a.natAbs < 2 ^ k) (hb : b.natAbs < 2 ^ k) : (a - b).natAbs < 2 ^ (k + 1) := by
  rw [Nat.pow_succ]
  omega
theorem na_up {a : Int} {k l : Nat} (ha : a.natAbs < 2 ^ k) (h : k ≤ l) : a.natAbs < 2 ^ l := Nat.lt_of_lt_of_le ha (Nat.pow_le_pow_right (by decide) h)
theorem add_divInt (p q : Rat) : p + q = Rat.divInt (p.num * q.den + q.num * p.den) (p.den * q.den) := by
  rw [Rat.add_def', ← Rat.divInt_ofNat, Int.natCast_mul]
theorem sub_divInt (p q : Rat) : p - q = Rat.divInt (p.num * q.den - q.num * p.den) (p.den * q.den) := by
  rw [Rat.sub_def', ← Rat.divInt_ofNat, Int.natCast_mul]
theorem mul_divInt (p q : Rat) : p * q = Rat.divInt (p.num * q.num) (p.den * q.den) := by
  rw [Rat.mul_def', ← Rat.divInt_ofNat, Int.natCast_mul]
theorem neg_divInt' (p : Rat) : -p = Rat.divInt (-p.num) p.den := by
  rw [← Rat.neg_num, ← Rat.neg_den p, Rat.num_divInt_den]
theorem den_ne (q : Rat) : (q.den : Int) ≠ 0 := by have := q.den_pos; omega
theorem sz_add {k l m : Nat} {p q : Rat} (hp : Sz k p) (hq : Sz l q) (h : k + l + 1 ≤ m) : Sz m (p + q) := by
  rw [add_divInt]
  have e1 := na_mul hp.1 (show (q.den : Int).natAbs < 2 ^ l from hq.2)
  have e2 := na_mul hq.1 (show (p.den : Int).natAbs < 2 ^ k from hp.2)
  rw [Nat.add_comm l k] at e2
  have e3 := na_mul (show (p.den : Int).natAbs < 2 ^ k from hp.2) (show (q.den : Int).natAbs < 2 ^ l from hq.2)
  exact (sz_divInt (na_add e1 e2) (na_up e3 (Nat.le_succ _)) (Int.mul_ne_zero (den_ne p) (den_ne q))).mono h
theorem sz_sub {k l m : Nat} {p q : Rat} (hp : Sz k p) (hq : Sz l q) (h : k + l + 1 ≤ m) : Sz m (p - q) := by
  rw [sub_divInt]
  have e1 := na_mul hp.1 (show (q.den : Int).natAbs < 2 ^ l from hq.2)
  have e2 := na_mul hq.1 (show (p.den : Int).natAbs < 2 ^ k from hp.2)
  rw [Nat.add_comm l k] at e2
  have e3 := na_mul (show (p.den : Int).natAbs < 2 ^ k from hp.2) (show (q.den : Int).natAbs < 2 ^ l from hq.2)
  exact (sz_divInt (na_sub e1 e2) (na_up e3 (Nat.le_succ _)) (Int.mul_ne_zero (den_ne p) (den_ne q))).mono h
theorem sz_mul {k l m : Nat} {p q : Rat} (hp : Sz k p) (hq : Sz l q) (h : k + l ≤ m) : Sz m (p * q) := by
  rw [mul_divInt]
  have e3 := na_mul (show (p.den : Int).natAbs < 2 ^ k from hp.2) (show (q.den : Int).natAbs < 2 ^ l from hq.2)
  exact (sz_divInt (na_mul hp.1 hq.1) e3 (Int.mul_ne_zero (den_ne p) (den_ne q))).mono h
theorem sz_neg {k : Nat} {p : Rat} (hp : Sz k p) : Sz k (-p) := ⟨by rw [Rat.neg_num, Int.natAbs_neg]; exact hp.1, by rw [Rat.neg_den]; exact hp.2⟩
/-- the steps of a remainder walk -/
def gmu (x y : Nat) : Nat := if y = 0 then 0 else 1 + Nat.log2 (x * y) + (if x < y then 1 else 0)
theorem gmu_lt {x y : Nat} (h : y ≠ 0) : gmu y (x % y) < gmu x y := by
  unfold gmu
  rw [if_neg h]
  by_cases hr : x % y = 0
  · rw [if_pos hr]; omega
  · rw [if_neg hr]
    have hlt := Nat.mod_lt x (Nat.pos_of_ne_zero h)
    rw [if_neg (show ¬ y < x % y by omega)]
    by_cases hx : x < y
    · rw [if_pos hx, Nat.mod_eq_of_lt hx, Nat.mul_comm]; omega
    · rw [if_neg hx]
      have h1 : x % y + x % y ≤ x := by
        have := Nat.mod_add_div x y
        have h2 : y ≤ y * (x / y) := Nat.le_mul_of_pos_right _ (Nat.div_pos (by omega) (by omega))
        omega
      have h2 : (y * (x % y)) * 2 ≤ x * y := by
        calc (y * (x % y)) * 2 = (x % y + x % y) * y := by grind
          _ ≤ x * y := Nat.mul_le_mul_right _ h1
      have h3 : y * (x % y) ≠ 0 := Nat.mul_ne_zero h hr
      have h4 : Nat.log2 ((y * (x % y)) * 2) = Nat.log2 (y * (x % y)) + 1 := by
        rw [Nat.mul_comm, Nat.log2_two_mul h3]
      have h5 : Nat.log2 ((y * (x % y)) * 2) ≤ Nat.log2 (x * y) := by
        rw [Nat.le_log2 (by omega)]
        exact Nat.le_trans (Nat.log2_self_le (by omega)) h2
      omega
theorem gmu_le {x y k : Nat} (hx : x < 2 ^ k) (hy : y < 2 ^ k) : gmu x y ≤ 2 * k + 2 := by
  unfold gmu
  split
  · omega
  · have : Nat.log2 (x * y) ≤ 2 * k := by
      by_cases h : x * y = 0
      · rw [h]; exact Nat.zero_le _
      · refine Nat.le_of_lt ((Nat.log2_lt h).mpr ?_)
        rw [Nat.two_mul, Nat.pow_add]
        exact Nat.mul_lt_mul'' hx hy
    split <;> omega
theorem fmod_nat (x y : Nat) : (x : Int).fmod (y : Int) = ((x % y : Nat) : Int) := by
  rw [Int.fmod_eq_emod_of_nonneg _ (by omega)]
  rfl
theorem shared_ok {n x y : Nat} {S : Sto} {Q : W → Sto → Prop} {k : Nat} (hn : 1 ≤ n) (hx : x < 2 ^ k) (hy : y < 2 ^ k) (hk : k ≤ 100000000) (h : Q (.d (.int (Nat.gcd x y : Nat))) S) : (FT n i_shared_part [.d (.int x), .d (.int y)] S).sat Q := by
  obtain ⟨n, rfl⟩ : ∃ k, n = k + 1 := ⟨n - 1, by omega⟩
  rw [FT_shared_part]
  refine run_sat rfl ?_
  unfold c_shared_part
  refine rs_cut (fun e S1 => e = [some (.d (.int (Nat.gcd x y : Nat))), some (.d (.int 0))] ∧ S1 = S) ?_ ?_
  · rw [q_while]
    have hm := gmu_le hx hy
    refine while_sat (fun m e S1 => ∃ x' y' : Nat, e = [some (.d (.int x')), some (.d (.int y'))] ∧ S1 = S ∧ Nat.gcd x' y' = Nat.gcd x y ∧ m = gmu x' y') (gmu x y) (by unfold WF; omega) ⟨x, y, rfl, rfl, rfl, rfl⟩ ?_
    rintro m e S1 ⟨x', y', rfl, rfl, hg, rfl⟩
    dsimp!
    split
    · rename_i hc
      have hy0 : y' ≠ 0 := by simpa using hc
      have hyi : ¬ ((y' : Int) = 0) := by omega
      dsimp! [hyi, fmod_nat]
      refine ⟨_, gmu_lt hy0, y', x' % y', ?_⟩
      exact ⟨rfl, (Nat.gcd_comm _ _).trans ((Nat.gcd_rec y' x').symm.trans ((Nat.gcd_comm _ _).trans hg)), rfl⟩
    · rename_i hc
      have hy0 : y' = 0 := by
        have : (y' : Int) = 0 := by simpa using hc
        omega
      subst hy0
      rw [Nat.gcd_zero_right] at hg
      rw [hg]
      rfl
  · rintro e S1 ⟨rfl, rfl⟩
    dsimp!
    rw [List.take_length]
    exact h
theorem abs_eq (i : Int) : (if i < 0 then -i else i) = (i.natAbs : Int) := by split <;> omega
theorem sign_na {b : Int} (a : Int) (h0 : b ≠ 0) : (b.sign * a).natAbs = a.natAbs := by
  rw [Int.natAbs_mul]
  rcases Int.lt_trichotomy b 0 with h | h | h
  · rw [Int.sign_eq_neg_one_of_neg h]; simp
  · exact absurd h h0
  · rw [Int.sign_eq_one_of_pos h]; simp
theorem num_eq (a b : Int) : (Rat.divInt a b).num = b.sign * a / ((Nat.gcd a.natAbs b.natAbs : Nat) : Int) := by
  rw [Rat.num_divInt, Nat.gcd_comm]
  rfl
theorem den_eq {a b : Int} (h0 : b ≠ 0) : ((Rat.divInt a b).den : Int) = (b.natAbs : Int) / ((Nat.gcd a.natAbs b.natAbs : Nat) : Int) := by
  rw [Rat.den_divInt, if_neg h0, Nat.gcd_comm]
  rfl
/-- Ratio(a, b) -/
theorem mk_ok {n : Nat} {a b : Int} {S : Sto} {Q : W → Sto → Prop} {k : Nat} (hn : 3 ≤ n) (ha : a.natAbs < 2 ^ k) (hb : b.natAbs < 2 ^ k) (hk : k ≤ 60000000) (h0 : b ≠ 0) (h : Q (.d (RQ (Rat.divInt a b))) S) : (mkF (FI n) 0 i_Ratio___init__ 3 2 [.d (.int a), .d (.int b)] S).sat Q := by
  obtain ⟨n, rfl⟩ : ∃ k, n = k + 3 := ⟨n - 3, by omega⟩
  have key : (FT (n + 2) i_Ratio___init__ [.c S.length, .d (.int a), .d (.int b)] (S ++ [.ins 0 []])).sat fun w S' => w = .d .non ∧ S' = S ++ [.ins 0 [.d (.int (Rat.divInt a b).num), .d (.int (Rat.divInt a b).den)]] := by
    rw [FT_Ratio___init__]
    refine run_sat rfl ?_
    unfold c_Ratio___init__
    simp_all! [h0]
    refine rs_cut (fun e S1 => S1 = S ++ [.ins 0 []] ∧ e = [some (.c S.length), some (.d (.int (b.sign * a))), some (.d (.int b.natAbs)), none]) ?_ ?_
    · dsimp!
      refine br_of (fun hb0 => ?_) (fun hb0 => ?_)
      · dsimp!
        rw [Int.sign_eq_neg_one_of_neg hb0, Int.ofNat_natAbs_of_nonpos (by omega), Int.neg_one_mul]
      · dsimp!
        rw [Int.sign_eq_one_of_pos (by omega), Int.natAbs_of_nonneg (by omega), Int.one_mul]
    · rintro e S1 ⟨rfl, rfl⟩
      have hg0 : Nat.gcd a.natAbs b.natAbs ≠ 0 := Nat.ne_of_gt (Nat.gcd_pos_of_pos_right _ (by omega))
      have hgi : ¬ ((Nat.gcd a.natAbs b.natAbs : Nat) : Int) = 0 := by omega
      have hgs : Nat.gcd a.natAbs b.natAbs < 2 ^ k := Nat.lt_of_le_of_lt (Nat.le_of_dvd (by omega) (Nat.gcd_dvd_right _ _)) hb
      have e0 : (S ++ [Ce.ins 0 []])[S.length]? = some (.ins 0 []) := by simp
      have e1 : ∀ o, (S ++ [Ce.ins 0 []]).set S.length o = S ++ [o] := fun o => by simp
      have e2 : ∀ o : Ce, (S ++ [o])[S.length]? = some o := fun o => by simp
      have e3 : ∀ o o' : Ce, (S ++ [o]).set S.length o' = S ++ [o'] := fun o o' => by simp
      simp_all! [abs_eq, sign_na a h0]
      refine shared_ok (k := k) (by omega) ha hb (by omega) ?_
      dsimp! [hgi, e0, e1, e2, e3]
      rw [List.take_of_length_le (by simp), Int.fdiv_eq_ediv_of_nonneg _ (by omega), Int.fdiv_eq_ediv_of_nonneg _ (by omega), num_eq a b, den_eq h0]
  obtain ⟨w, S', e, rfl, rfl⟩ := sat_get key
  unfold mkF
  rw [if_pos (by rfl), show FI (n + 3) = FT (n + 2) from rfl, e]
  simp only [List.getElem?_append_right (Nat.le_refl _), Nat.sub_self, List.getElem?_cons_zero, plainL, List.length_cons, List.length_nil, and_self, if_true, List.take_left, sat_ok, List.take_append_of_le_length (Nat.le_refl _), List.take_length]
  exact h
theorem rq_attr0 {q : Rat} {S : Sto} : attr 0 0 (.d (RQ q)) S = .ok (.d (.int q.num)) S := rfl
theorem rq_attr1 {q : Rat} {S : Sto} : attr 0 1 (.d (RQ q)) S = .ok (.d (.int q.den)) S := rfl
theorem add_ok {n : Nat} {p q : Rat} {S : Sto} {Q : W → Sto → Prop} {k l : Nat} (hn : 4 ≤ n) (hp : Sz k p) (hq : Sz l q) (hk : k + l + 1 ≤ 60000000) (h : Q (.d (RQ (p + q))) S) : (FT n i_Ratio___add__ [.d (RQ p), .d (RQ q)] S).sat Q := by
  obtain ⟨n, rfl⟩ : ∃ k, n = k + 1 := ⟨n - 1, by omega⟩
  rw [FT_Ratio___add__]
  refine run_sat rfl ?_
  unfold c_Ratio___add__
  have e1 := na_mul hp.1 (show (q.den : Int).natAbs < 2 ^ l from hq.2)
  have e2 := na_mul hq.1 (show (p.den : Int).natAbs < 2 ^ k from hp.2)
  have e3 := na_mul (show (p.den : Int).natAbs < 2 ^ k from hp.2) (show (q.den : Int).natAbs < 2 ^ l from hq.2)
  have m1 : IntMulOk p.num q.den := mulOk hp.1 (show (q.den : Int).natAbs < 2 ^ l from hq.2) (by omega)
  have m2 : IntMulOk q.num p.den := mulOk hq.1 (show (p.den : Int).natAbs < 2 ^ k from hp.2) (by omega)
  have m3 : IntMulOk p.den q.den := mulOk (show (p.den : Int).natAbs < 2 ^ k from hp.2) (show (q.den : Int).natAbs < 2 ^ l from hq.2) (by omega)
  rw [Nat.add_comm l k] at e2
  dsimp! [m1, m2, m3]
  refine mk_ok (k := k + l + 1) (by omega) (na_add e1 e2) (na_up e3 (Nat.le_succ _)) hk (Int.mul_ne_zero (den_ne p) (den_ne q)) ?_
  dsimp!
  rw [List.take_length, ← add_divInt]
  exact h
theorem sub_ok {n : Nat} {p q : Rat} {S : Sto} {Q : W → Sto → Prop} {k l : Nat} (hn : 4 ≤ n) (hp : Sz k p) (hq : Sz l q) (hk : k + l + 1 ≤ 60000000) (h : Q (.d (RQ (p - q))) S) : (FT n i_Ratio___sub__ [.d (RQ p), .d (RQ q)] S).sat Q := by
  obtain ⟨n, rfl⟩ : ∃ k, n = k + 1 := ⟨n - 1, by omega⟩
  rw [FT_Ratio___sub__]
  refine run_sat rfl ?_
  unfold c_Ratio___sub__
  have e1 := na_mul hp.1 (show (q.den : Int).natAbs < 2 ^ l from hq.2)
  have e2 := na_mul hq.1 (show (p.den : Int).natAbs < 2 ^ k from hp.2)
  have e3 := na_mul (show (p.den : Int).natAbs < 2 ^ k from hp.2) (show (q.den : Int).natAbs < 2 ^ l from hq.2)
  have m1 : IntMulOk p.num q.den := mulOk hp.1 (show (q.den : Int).natAbs < 2 ^ l from hq.2) (by omega)
  have m2 : IntMulOk q.num p.den := mulOk hq.1 (show (p.den : Int).natAbs < 2 ^ k from hp.2) (by omega)
  have m3 : IntMulOk p.den q.den := mulOk (show (p.den : Int).natAbs < 2 ^ k from hp.2) (show (q.den : Int).natAbs < 2 ^ l from hq.2) (by omega)
  rw [Nat.add_comm l k] at e2
  dsimp! [m1, m2, m3]
  refine mk_ok (k := k + l + 1) (by omega) (na_sub e1 e2) (na_up e3 (Nat.le_succ _)) hk (Int.mul_ne_zero (den_ne p) (den_ne q)) ?_
  dsimp!
  rw [List.take_length, ← sub_divInt]
  exact h
theorem mul_ok {n : Nat} {p q : Rat} {S : Sto} {Q : W → Sto → Prop} {k l : Nat} (hn : 4 ≤ n) (hp : Sz k p) (hq : Sz l q) (hk : k + l ≤ 60000000) (h : Q (.d (RQ (p * q))) S) : (FT n i_Ratio___mul__ [.d (RQ p), .d (RQ q)] S).sat Q := by
  obtain ⟨n, rfl⟩ : ∃ k, n = k + 1 := ⟨n - 1, by omega⟩
  rw [FT_Ratio___mul__]
  refine run_sat rfl ?_
  unfold c_Ratio___mul__
  have e3 := na_mul (show (p.den : Int).natAbs < 2 ^ k from hp.2) (show (q.den : Int).natAbs < 2 ^ l from hq.2)
  have m1 : IntMulOk p.num q.num := mulOk hp.1 hq.1 (by omega)
  have m3 : IntMulOk p.den q.den := mulOk (show (p.den : Int).natAbs < 2 ^ k from hp.2) (show (q.den : Int).natAbs < 2 ^ l from hq.2) (by omega)
  dsimp! [m1, m3]
  refine mk_ok (k := k + l) (by omega) (na_mul hp.1 hq.1) e3 hk (Int.mul_ne_zero (den_ne p) (den_ne q)) ?_
  dsimp!
  rw [List.take_length, ← mul_divInt]
  exact h
theorem neg_ok {n : Nat} {p : Rat} {S : Sto} {Q : W → Sto → Prop} {k : Nat} (hn : 4 ≤ n) (hp : Sz k p) (hk : k ≤ 60000000) (h : Q (.d (RQ (-p))) S) : (FT n i_Ratio___neg__ [.d (RQ p)] S).sat Q := by
  obtain ⟨n, rfl⟩ : ∃ k, n = k + 1 := ⟨n - 1, by omega⟩
  rw [FT_Ratio___neg__]
  refine run_sat rfl ?_
  unfold c_Ratio___neg__
  dsimp!
  refine mk_ok (k := k) (by omega) (by rw [Int.natAbs_neg]; exact hp.1) (show (p.den : Int).natAbs < 2 ^ k from hp.2) hk (den_ne p) ?_
  dsimp!
  rw [List.take_length, ← neg_divInt']
  exact h
end Lw

namespace Lw
open PySem PySem.Spec PyProof.Rows L2 Py
/-! the law's own fractions -/
abbrev TQ (q : Rat) : D := .tup [.int q.num, .int q.den]
theorem great_ok {n i p : Nat} {P : Int} {o : Ce} {S : Sto} {Q : W → Sto → Prop} (hn : 2 ≤ n) (hP : P = p) (ho : S[i]? = some o) (hf : Feed o) (hp : p ≤ 1000) (h : ∀ r o', 0 ≤ r → r < 100000 ^ p → Feed o' → Q (.d (.int r)) (S.set i o')) : (FT n i__law_great [.c i, .d (.int P)] S).sat Q := by
  obtain ⟨n, rfl⟩ : ∃ k, n = k + 1 := ⟨n - 1, by omega⟩
  have hi : i < S.length := (List.getElem?_eq_some_iff.mp ho).1
  have m1 : ∀ x, IntMulOk x 100000 := fun x => mulOkR (by decide)
  rw [FT__law_great]
  refine run_sat rfl ?_
  unfold c__law_great
  simp_all!
  refine rs_cut (fun e S1 => ∃ r o' x1 x3, e = [some (.c i), x1, some (.d (.int r)), x3] ∧ S1 = S.set i o' ∧ Feed o' ∧ 0 ≤ r ∧ r < 100000 ^ p) ?_ ?_
  · have hs : smallI P = true := smallI_of (by omega) (by omega)
    dsimp! [hs]
    refine for_sat (fun j e S1 => ∃ r o' x1 x3, e = [some (.c i), x1, some (.d (.int r)), x3] ∧ S1 = S.set i o' ∧ Feed o' ∧ 0 ≤ r ∧ r < 100000 ^ j) ?_ ?_ ?_
    · exact ⟨0, o, _, _, rfl, (set_same ho).symm, hf, by decide, by decide⟩
    · rintro j x e S1 hx ⟨r, o', x1, x3, rfl, rfl, hf, h0, h1⟩
      refine ⟨trivial, _, rfl, ?_⟩
      dsimp! [m1]
      refine draw_ok (by omega) (set_get hi) hf (by decide) (by decide) fun r' o'' h2 h3 hf' => ?_
      dsimp! [List.set_set]
      refine ⟨_, o'', _, _, rfl, rfl, hf', by omega, ?_⟩
      rw [Int.pow_succ]
      omega
    · rintro e S1 ⟨r, o', x1, x3, rfl, rfl, hf, h0, h1⟩
      have hl : (rng 0 P).length = p := by unfold rng; simp; omega
      rw [hl] at h1
      exact ⟨trivial, r, o', _, _, rfl, rfl, hf, h0, h1⟩
  · rintro e S1 ⟨r, o', x1, x3, rfl, rfl, hf, h0, h1⟩
    dsimp!
    rw [List.take_of_length_le (by simp)]
    exact h r o' h0 h1 hf
theorem pair_ok {n : Nat} {a b : Int} {S : Sto} {Q : W → Sto → Prop} {k : Nat} (hn : 1 ≤ n) (ha : a.natAbs < 2 ^ k) (hb : b.natAbs < 2 ^ k) (hk : k ≤ 60000000) (h0 : b ≠ 0) (h : Q (.d (TQ (Rat.divInt a b))) S) : (FT n i__law_pair [.d (.int a), .d (.int b)] S).sat Q := by
  obtain ⟨n, rfl⟩ : ∃ k, n = k + 1 := ⟨n - 1, by omega⟩
  have hg0 : Nat.gcd a.natAbs b.natAbs ≠ 0 := Nat.ne_of_gt (Nat.gcd_pos_of_pos_right _ (by omega))
  have hgs : Nat.gcd a.natAbs b.natAbs < 2 ^ k := Nat.lt_of_le_of_lt (Nat.le_of_dvd (by omega) (Nat.gcd_dvd_right _ _)) hb
  have ga : ((Nat.gcd a.natAbs b.natAbs : Nat) : Int) ∣ a := Int.ofNat_dvd_left.mpr (Nat.gcd_dvd_left _ _)
  have gb : ((Nat.gcd a.natAbs b.natAbs : Nat) : Int) ∣ b := Int.ofNat_dvd_left.mpr (Nat.gcd_dvd_right _ _)
  rw [FT__law_pair]
  refine run_sat rfl ?_
  unfold c__law_pair
  simp_all! [abs_eq]
  simp_all! [abs_eq]
  refine rs_cut (fun e S1 => S1 = S ∧ e = [some (.d (.int a)), some (.d (.int b)), some (.d (.int (Nat.gcd a.natAbs b.natAbs : Nat))), some (.d (.int 0))]) ?_ ?_
  · rw [q_while]
    have hm := gmu_le ha hb
    refine while_sat (fun m e S1 => ∃ x' y' : Nat, S1 = S ∧ e = [some (.d (.int a)), some (.d (.int b)), some (.d (.int x')), some (.d (.int y'))] ∧ Nat.gcd x' y' = Nat.gcd a.natAbs b.natAbs ∧ m = gmu x' y') (gmu a.natAbs b.natAbs) (by unfold WF; omega) ⟨_, _, rfl, rfl, rfl, rfl⟩ ?_
    rintro m e S1 ⟨x', y', rfl, rfl, hg, rfl⟩
    dsimp!
    split
    · rename_i hc
      have hy0 : y' ≠ 0 := by
        intro e
        subst e
        simp at hc
      have hyi : ¬ ((y' : Int) = 0) := by omega
      dsimp! [hyi, fmod_nat]
      refine ⟨_, gmu_lt hy0, y', x' % y', ?_⟩
      exact ⟨rfl, (Nat.gcd_comm _ _).trans ((Nat.gcd_rec y' x').symm.trans ((Nat.gcd_comm _ _).trans hg)), rfl⟩
    · rename_i hc
      have hy0 : y' = 0 := by simpa using hc
      subst hy0
      rw [Nat.gcd_zero_right] at hg
      rw [hg]
      rfl
  · rintro e S1 ⟨rfl, rfl⟩
    have hres : ∀ g : Int, g.natAbs = Nat.gcd a.natAbs b.natAbs → (a.fdiv g = (Rat.divInt a b).num ∧ b.fdiv g = (Rat.divInt a b).den) → (Q (.d (.tup [.int (a.fdiv g), .int (b.fdiv g)])) S1) := fun g _ hg => by
      rw [hg.1, hg.2]
      exact h
    refine rs_cut (fun e S2 => S2 = S1 ∧ ∃ g : Int, e = [some (.d (.int a)), some (.d (.int b)), some (.d (.int g)), some (.d (.int 0))] ∧ g.natAbs = Nat.gcd a.natAbs b.natAbs ∧ a.fdiv g = (Rat.divInt a b).num ∧ b.fdiv g = (Rat.divInt a b).den) ?_ ?_
    · dsimp!
      refine br_of (fun hb0 => ?_) (fun hb0 => ?_)
      · dsimp!
        refine ⟨_, rfl, by omega, ?_, ?_⟩
        · rw [num_eq, Int.sign_eq_neg_one_of_neg hb0, Int.zero_sub, Int.fdiv_eq_ediv_of_dvd ((Int.neg_dvd).mpr ga), Int.ediv_neg, Int.neg_one_mul, Int.neg_ediv_of_dvd ga]
        · rw [den_eq h0, Int.zero_sub, Int.fdiv_eq_ediv_of_dvd ((Int.neg_dvd).mpr gb), Int.ediv_neg, Int.ofNat_natAbs_of_nonpos (by omega), Int.neg_ediv_of_dvd gb]
      · dsimp!
        refine ⟨_, rfl, by omega, ?_, ?_⟩
        · rw [num_eq, Int.sign_eq_one_of_pos (by omega), Int.fdiv_eq_ediv_of_dvd ga, Int.one_mul]
        · rw [den_eq h0, Int.fdiv_eq_ediv_of_dvd gb, Int.natAbs_of_nonneg (by omega)]
    · rintro e S2 ⟨rfl, g, rfl, hg, h1, h2⟩
      have hgi : ¬ g = 0 := by omega
      have hsz : (2 : Nat) ≤ sizeLine := by decide
      dsimp! [hgi, hsz]
      rw [List.take_length, h1, h2]
      exact h
theorem isint_ok {n : Nat} {i : Int} {S : Sto} {Q : W → Sto → Prop} (hn : 1 ≤ n) (h : Q (.d (.bl true)) S) : (FT n i__law_is_integer [.d (.int i)] S).sat Q := by
  obtain ⟨n, rfl⟩ : ∃ k, n = k + 1 := ⟨n - 1, by omega⟩
  rw [FT__law_is_integer]
  refine run_sat rfl ?_
  unfold c__law_is_integer
  dsimp! [Bool.not_false]
  rw [List.take_length]
  exact h
theorem same_ok {n : Nat} {p q : Rat} {S : Sto} {Q : W → Sto → Prop} (hn : 2 ≤ n) (e : p = q) (h : Q (.d (.bl true)) S) : (FT n i__law_same [.d (RQ p), .d (TQ q)] S).sat Q := by
  subst e
  obtain ⟨n, rfl⟩ : ∃ k, n = k + 1 := ⟨n - 1, by omega⟩
  rw [FT__law_same]
  refine run_sat rfl ?_
  unfold c__law_same
  simp_all! [SG, beq_self_eq_true, Bool.not_true]
  refine rs_cut (fun e S1 => S1 = S ∧ e = [some (.d (RQ p)), some (.d (TQ p))]) ?_ ?_
  · dsimp!
    refine isint_ok (by omega) ?_
    dsimp! [Bool.not_true]
    refine isint_ok (by omega) ?_
    dsimp! [Bool.not_true]
  · rintro e S1 ⟨rfl, rfl⟩
    dsimp! [decide_true]
    rw [List.take_length]
    exact h
end Lw

namespace Lw
open PySem PySem.Spec PyProof.Rows L2 Py
/-! texts of numbers (as in S_k02) -/
theorem slen {i : Int} (h : i.natAbs < 2 ^ 1000) : (Str.ofString (toString i)).length ≤ 401 := by
  have e : (2 : Nat) ^ 1000 < 10 ^ 400 := by decide +kernel
  have h1 : (Nat.toDigits 10 i.natAbs).length ≤ 400 := digits10_le (by decide) (Nat.lt_trans h e)
  rw [Str.ofString_eq_toList]
  show (List.toArray _).size ≤ 401
  rw [List.size_toArray, List.length_map]
  cases i with
  | ofNat m =>
    show (Nat.repr m).toList.length ≤ 401
    rw [Nat.repr, String.toList_ofList]
    exact Nat.le_succ_of_le h1
  | negSucc m =>
    have e2 : (Nat.repr (m + 1)).toList.length ≤ 400 := by
      rw [Nat.repr, String.toList_ofList]
      exact h1
    show ("-" ++ Nat.repr (m + 1)).toList.length ≤ 401
    rw [String.toList_append, List.length_append]
    show 1 + _ ≤ 401
    omega
theorem slog {i : Int} (h : i.natAbs < 2 ^ 1000) : i.natAbs.log2 < 1920 := by
  by_cases h0 : i.natAbs = 0
  · rw [h0]; decide
  · exact Nat.lt_trans ((Nat.log2_lt h0).mpr h) (by decide)
noncomputable def qtext (p : Rat) : Str := if (p.den : Int) = 1 then Str.ofString (toString p.num) else Str.ofString (toString p.num) ++ Str.ofString "/" ++ Str.ofString (toString (p.den : Int))
theorem text_len {p : Rat} (hp : Sz 1000 p) : (Str.ofString (toString p.num)).length + (Str.ofString "/").length ≤ sizeLine ∧ (Str.ofString (toString p.num) ++ Str.ofString "/").length + (Str.ofString (toString (p.den : Int))).length ≤ sizeLine := by
  have h1 := slen hp.1
  have h2 := slen (show (p.den : Int).natAbs < 2 ^ 1000 from hp.2)
  have h3 : (Str.ofString "/").length = 1 := by decide
  have h4 : (Str.ofString (toString p.num) ++ Str.ofString "/").length = (Str.ofString (toString p.num)).length + (Str.ofString "/").length := by
    show (_ ++ _ : Array Nat).size = _
    rw [Array.size_append]
    rfl
  have h5 : 900 ≤ sizeLine := by decide
  omega
theorem text_ok {n : Nat} {p : Rat} {S : Sto} {Q : W → Sto → Prop} (hn : 1 ≤ n) (hp : Sz 1000 p) (h : Q (.d (.str (qtext p))) S) : (FT n i_Ratio_text [.d (RQ p)] S).sat Q := by
  obtain ⟨n, rfl⟩ : ∃ k, n = k + 1 := ⟨n - 1, by omega⟩
  obtain ⟨l1, l2⟩ := text_len hp
  rw [FT_Ratio_text]
  refine run_sat rfl ?_
  unfold c_Ratio_text
  unfold qtext at h
  refine rs_cut (fun e S1 => S1 = S ∧ e = [some (.d (RQ p))] ∧ ¬ (p.den : Int) = 1) ?_ ?_
  · simp!
    refine br_of (fun h1 => ?_) (fun h1 => ?_)
    · simp! [slog hp.1]
      rw [List.take_length]
      rw [if_pos h1] at h
      exact h
    · simp!
      exact h1
  · rintro e S1 ⟨rfl, rfl, h1⟩
    rw [if_neg h1] at h
    simp! [slog hp.1, slog (show (p.den : Int).natAbs < 2 ^ 1000 from hp.2), l1, l2]
    rw [List.take_length]
    exact h
theorem ltext_ok {n : Nat} {p : Rat} {S : Sto} {Q : W → Sto → Prop} (hn : 1 ≤ n) (hp : Sz 1000 p) (h : Q (.d (.str (qtext p))) S) : (FT n i__law_text [.d (TQ p)] S).sat Q := by
  obtain ⟨n, rfl⟩ : ∃ k, n = k + 1 := ⟨n - 1, by omega⟩
  obtain ⟨l1, l2⟩ := text_len hp
  rw [FT__law_text]
  refine run_sat rfl ?_
  unfold c__law_text
  unfold qtext at h
  refine rs_cut (fun e S1 => S1 = S ∧ e = [some (.d (TQ p))] ∧ ¬ (p.den : Int) = 1) ?_ ?_
  · simp!
    refine br_of (fun h1 => ?_) (fun h1 => ?_)
    · simp! [slog hp.1]
      rw [List.take_length]
      rw [if_pos h1] at h
      exact h
    · simp!
      exact h1
  · rintro e S1 ⟨rfl, rfl, h1⟩
    rw [if_neg h1] at h
    simp! [slog hp.1, slog (show (p.den : Int).natAbs < 2 ^ 1000 from hp.2), l1, l2]
    rw [List.take_length]
    exact h
end Lw

namespace Lw
open PySem PySem.Spec PyProof.Rows L2 Py
/-! terms -/
inductive Tm where
  | num (q : Rat)
  | ltr (c : Nat)
  | star (a : Tm)
  | plus (a b : Tm)
  | row (a b : Tm)
abbrev kN : Str := Str.ofString "number"
abbrev kL : Str := Str.ofString "letter"
abbrev kS : Str := Str.ofString "star"
abbrev kP : Str := Str.ofString "plus"
abbrev kR : Str := Str.ofString "row"
abbrev ltrS (c : Nat) : Str := ⟨#[97 + c]⟩
theorem kne : ((kN = kL) = False) ∧ ((kN = kS) = False) ∧ ((kN = kP) = False) ∧ ((kN = kR) = False) ∧ ((kL = kN) = False) ∧ ((kL = kS) = False) ∧ ((kL = kP) = False) ∧ ((kL = kR) = False) ∧ ((kS = kN) = False) ∧ ((kS = kL) = False) ∧ ((kS = kP) = False) ∧ ((kS = kR) = False) ∧ ((kP = kN) = False) ∧ ((kP = kL) = False) ∧ ((kP = kS) = False) ∧ ((kP = kR) = False) ∧ ((kR = kN) = False) ∧ ((kR = kL) = False) ∧ ((kR = kS) = False) ∧ ((kR = kP) = False) := by
  simp only [eq_iff_iff, iff_false]
  decide +kernel
/-- as the law has it -/
def Tm.L : Tm → D
  | .num q => .tup [.str kN, TQ q]
  | .ltr c => .tup [.str kL, .str (ltrS c)]
  | .star a => .tup [.str kS, a.L]
  | .plus a b => .tup [.str kP, a.L, b.L]
  | .row a b => .tup [.str kR, a.L, b.L]
/-- as the program has it -/
def Tm.R : Tm → D
  | .num q => .tup [.str kN, RQ q]
  | .ltr c => .tup [.str kL, .str (ltrS c)]
  | .star a => .tup [.str kS, a.R]
  | .plus a b => .tup [.str kP, a.R, b.R]
  | .row a b => .tup [.str kR, a.R, b.R]
def Tm.dep : Tm → Nat
  | .num _ => 0
  | .ltr _ => 0
  | .star a => a.dep + 1
  | .plus a b => max a.dep b.dep + 1
  | .row a b => max a.dep b.dep + 1
def Tm.size : Tm → Nat
  | .num _ => 1
  | .ltr _ => 1
  | .star a => a.size + 1
  | .plus a b => a.size + b.size + 1
  | .row a b => a.size + b.size + 1
def Tm.Ok : Tm → Prop
  | .num q => Sz 1000 q
  | .ltr c => c < 4
  | .star a => a.Ok
  | .plus a b => a.Ok ∧ b.Ok
  | .row a b => a.Ok ∧ b.Ok
def Tm.lev : Tm → Int
  | .num _ => 3
  | .ltr _ => 3
  | .star _ => 2
  | .plus _ _ => 0
  | .row _ _ => 1
def Tm.kind : Tm → Str
  | .num _ => kN
  | .ltr _ => kL
  | .star _ => kS
  | .plus _ _ => kP
  | .row _ _ => kR
def brS (x : Str) : Str := Str.ofString "(" ++ x ++ Str.ofString ")"
noncomputable def Tm.txt : Tm → Str
  | .num q => qtext q
  | .ltr c => ltrS c
  | .star a => (if a.lev < 2 then brS a.txt else a.txt) ++ Str.ofString "*"
  | .plus a b => a.txt ++ Str.ofString "+" ++ (if b.lev < 1 then brS b.txt else b.txt)
  | .row a b => (if a.lev < 1 then brS a.txt else a.txt) ++ Str.ofString "." ++ (if b.lev < 2 then brS b.txt else b.txt)
noncomputable def Tm.par (t : Tm) (k : Int) : Str := if t.lev < k then brS t.txt else t.txt
theorem str_len (x y : Str) : (x ++ y).length = x.length + y.length := by
  show (_ ++ _ : Array Nat).size = _
  rw [Array.size_append]
  rfl
theorem sl1 : (Str.ofString "(").length = 1 ∧ (Str.ofString ")").length = 1 ∧ (Str.ofString "+").length = 1 ∧ (Str.ofString ".").length = 1 ∧ (Str.ofString "*").length = 1 := by decide +kernel
theorem qtext_len {q : Rat} (h : Sz 1000 q) : (qtext q).length ≤ 900 := by
  have h1 := slen h.1
  have h2 := slen (show (q.den : Int).natAbs < 2 ^ 1000 from h.2)
  have h3 : (Str.ofString "/").length = 1 := by decide
  unfold qtext
  split
  · omega
  · rw [str_len, str_len, h3]
    omega
theorem br_len (x : Str) : (brS x).length = x.length + 2 := by
  unfold brS
  rw [str_len, str_len, sl1.1, sl1.2.1]
  omega
theorem txt_len : ∀ {t : Tm}, t.Ok → t.txt.length ≤ 1000 * t.size
  | .num q, h => by
    have := qtext_len h
    simp only [Tm.txt, Tm.size]
    omega
  | .ltr c, h => by
    simp only [Tm.txt, Tm.size]
    show (1 : Nat) ≤ _
    omega
  | .star a, h => by
    have := txt_len (t := a) h
    simp only [Tm.txt, Tm.size]
    rw [str_len, sl1.2.2.2.2]
    split
    · rw [br_len]; omega
    · omega
  | .plus a b, h => by
    have h1 := txt_len (t := a) h.1
    have h2 := txt_len (t := b) h.2
    simp only [Tm.txt, Tm.size]
    rw [str_len, str_len, sl1.2.2.1]
    split
    · rw [br_len]; omega
    · omega
  | .row a b, h => by
    have h1 := txt_len (t := a) h.1
    have h2 := txt_len (t := b) h.2
    simp only [Tm.txt, Tm.size]
    rw [str_len, str_len, sl1.2.2.2.1]
    split <;> split <;> (try rw [br_len]) <;> (try rw [br_len]) <;> omega
end Lw

namespace Lw
open PySem PySem.Spec PyProof.Rows L2 Py
/-! terms: made, written -/
theorem tmade_ok : ∀ {t : Tm} {n : Nat} {S : Sto} {Q : W → Sto → Prop}, t.dep + 5 ≤ n → t.Ok → Q (.d t.R) S → (FT n i__law_made [.d t.L] S).sat Q
  | t, 0, S, Q, hn, ho, h => by omega
  | t, n + 1, S, Q, hn, ho, h => by
    have z2 : (2 : Nat) ≤ sizeLine := by decide
    have z3 : (3 : Nat) ≤ sizeLine := by decide
    obtain ⟨e1, e2, e3, e4, e5, e6, e7, e8, e9, e10, e11, e12, e13, e14, e15, e16, e17, e18, e19, e20⟩ := kne
    rw [FT__law_made]
    with_reducible refine run_sat (by simp) ?_
    unfold c__law_made
    cases t with
    | num q =>
      have hden : (q.den : Int) ≠ 0 := by have := q.den_pos; omega
      have ho : Sz 1000 q := ho
      simp_all! [Tm.L]
      refine mk_ok (k := 1000) (by omega) ho.1 (show (q.den : Int).natAbs < 2 ^ 1000 from ho.2) (by decide) hden ?_
      rw [Rat.num_divInt_den]
      simp! [z2]
      rw [List.take_length]
      exact h
    | ltr c =>
      simp_all! [Tm.L, e1, e2, e3, e4, e5, e6, e7, e8, e9, e10, e11, e12, e13, e14, e15, e16, e17, e18, e19, e20]
      simp_all! [e1, e2, e3, e4, e5, e6, e7, e8, e9, e10, e11, e12, e13, e14, e15, e16, e17, e18, e19, e20]
      rw [List.take_length]
      exact h
    | star a =>
      simp only [Tm.dep] at hn
      simp_all! [Tm.L, e1, e2, e3, e4, e5, e6, e7, e8, e9, e10, e11, e12, e13, e14, e15, e16, e17, e18, e19, e20]
      simp_all! [e1, e2, e3, e4, e5, e6, e7, e8, e9, e10, e11, e12, e13, e14, e15, e16, e17, e18, e19, e20]
      simp_all! [e1, e2, e3, e4, e5, e6, e7, e8, e9, e10, e11, e12, e13, e14, e15, e16, e17, e18, e19, e20]
      refine tmade_ok (t := a) (by omega) ho ?_
      simp! [z2]
      rw [List.take_length]
      exact h
    | plus a b =>
      simp only [Tm.dep] at hn
      simp_all! [Tm.L, e1, e2, e3, e4, e5, e6, e7, e8, e9, e10, e11, e12, e13, e14, e15, e16, e17, e18, e19, e20]
      simp_all! [e1, e2, e3, e4, e5, e6, e7, e8, e9, e10, e11, e12, e13, e14, e15, e16, e17, e18, e19, e20]
      simp_all! [e1, e2, e3, e4, e5, e6, e7, e8, e9, e10, e11, e12, e13, e14, e15, e16, e17, e18, e19, e20]
      refine tmade_ok (t := a) (by omega) ho.1 ?_
      simp!
      refine tmade_ok (t := b) (by omega) ho.2 ?_
      simp! [z3]
      rw [List.take_length]
      exact h
    | row a b =>
      simp only [Tm.dep] at hn
      simp_all! [Tm.L, e1, e2, e3, e4, e5, e6, e7, e8, e9, e10, e11, e12, e13, e14, e15, e16, e17, e18, e19, e20]
      simp_all! [e1, e2, e3, e4, e5, e6, e7, e8, e9, e10, e11, e12, e13, e14, e15, e16, e17, e18, e19, e20]
      simp_all! [e1, e2, e3, e4, e5, e6, e7, e8, e9, e10, e11, e12, e13, e14, e15, e16, e17, e18, e19, e20]
      refine tmade_ok (t := a) (by omega) ho.1 ?_
      simp!
      refine tmade_ok (t := b) (by omega) ho.2 ?_
      simp! [z3]
      rw [List.take_length]
      exact h
end Lw

namespace Lw
open PySem PySem.Spec PyProof.Rows L2 Py
/-! == of data of one make -/
structure Lk {α : Type} [DecidableEq α] (f : α → D) (n : Nat) : Prop where
  ex : ∃ g : α → PyData, (∀ a, D.py (f a) = some (g a)) ∧ (∀ a, PyData.canLay0 (g a) = true) ∧ (∀ a, PyData.depth (g a) ≤ n) ∧ ∀ a b, PyData.eqv (g a) (g b) = decide (a = b)
section
variable {α β : Type} [DecidableEq α] [DecidableEq β]
theorem Lk.int : Lk D.int 0 := ⟨.int, fun _ => by rw [D.py], fun _ => by simp [PyData.canLay0], fun _ => by simp [PyData.depth], fun a b => by simp only [PyData.eqv]; by_cases h : a = b <;> simp [h]⟩
theorem pyL_map {f : α → D} {g : α → PyData} (h : ∀ a, D.py (f a) = some (g a)) : ∀ l : List α, D.pyL (l.map f) = some (l.map g)
  | [] => by rw [List.map_nil, D.pyL]; rfl
  | a :: l => by rw [List.map_cons, D.pyL, h a, pyL_map h l]; rfl
theorem lay_map {g : α → PyData} (h : ∀ a, PyData.canLay0 (g a) = true) : ∀ l : List α, PyData.canLayAll0 (l.map g) = true
  | [] => by simp [PyData.canLayAll0]
  | a :: l => by simp [PyData.canLayAll0, h a, lay_map h l]
theorem depth_map {g : α → PyData} {n : Nat} (h : ∀ a, PyData.depth (g a) ≤ n) : ∀ l : List α, PyData.depthAll (l.map g) ≤ n
  | [] => by simp [PyData.depthAll]
  | a :: l => by
    rw [List.map_cons, PyData.depthAll]
    exact Nat.max_le.mpr ⟨h a, depth_map h l⟩
theorem eqv_map {g : α → PyData} (h : ∀ a b, PyData.eqv (g a) (g b) = decide (a = b)) : ∀ l m : List α, PyData.eqvAll (l.map g) (m.map g) = decide (l = m)
  | [], [] => by simp [PyData.eqvAll]
  | [], b :: m => by simp [PyData.eqvAll]
  | a :: l, [] => by simp [PyData.eqvAll]
  | a :: l, b :: m => by
    rw [List.map_cons, List.map_cons, PyData.eqvAll, h a b, eqv_map h l m]
    by_cases h1 : a = b <;> by_cases h2 : l = m <;> simp [h1, h2]
theorem Lk.lst {f : α → D} {n : Nat} (h : Lk f n) : Lk (fun l : List α => D.lst (l.map f)) (n + 1) := by
  obtain ⟨g, h1, h2, h3, h4⟩ := h.ex
  refine ⟨fun l => .list (l.map g), fun l => ?_, fun l => ?_, fun l => ?_, fun l m => ?_⟩
  · rw [D.py, pyL_map h1]; rfl
  · rw [PyData.canLay0]; exact lay_map h2 l
  · rw [PyData.depth]; exact Nat.succ_le_succ (depth_map h3 l)
  · rw [PyData.eqv]; exact eqv_map h4 l m
theorem Lk.tup {f : α → D} {n : Nat} (h : Lk f n) : Lk (fun l : List α => D.tup (l.map f)) (n + 1) := by
  obtain ⟨g, h1, h2, h3, h4⟩ := h.ex
  refine ⟨fun l => .tuple (l.map g), fun l => ?_, fun l => ?_, fun l => ?_, fun l m => ?_⟩
  · rw [D.py, pyL_map h1]; rfl
  · rw [PyData.canLay0]; exact lay_map h2 l
  · rw [PyData.depth]; exact Nat.succ_le_succ (depth_map h3 l)
  · rw [PyData.eqv]; exact eqv_map h4 l m
theorem Lk.pair {f : α → D} {g : β → D} {n : Nat} (h : Lk f n) (k : Lk g n) : Lk (fun p : α × β => D.tup [f p.1, g p.2]) (n + 1) := by
  obtain ⟨u, h1, h2, h3, h4⟩ := h.ex
  obtain ⟨v, k1, k2, k3, k4⟩ := k.ex
  refine ⟨fun p => .tuple [u p.1, v p.2], fun p => ?_, fun p => ?_, fun p => ?_, fun p q => ?_⟩
  · simp [D.py, D.pyL, h1, k1]
  · simp [PyData.canLay0, PyData.canLayAll0, h2, k2]
  · simp only [PyData.depth, PyData.depthAll]
    have a := h3 p.1
    have b := k3 p.2
    omega
  · simp only [PyData.eqv, PyData.eqvAll, h4, k4, Bool.and_true]
    obtain ⟨a, b⟩ := p
    obtain ⟨c, d⟩ := q
    by_cases e1 : a = c <;> by_cases e2 : b = d <;> simp [e1, e2]
theorem Lk.eq {f : α → D} {n : Nat} (h : Lk f n) (hn : n ≤ 64) {a b : α} {S : Sto} (h0 : eqS (f a) (f b) = none) : opEqG (.d (f a)) (.d (f b)) S = .ok (.d (.bl (decide (a = b)))) S := by
  obtain ⟨g, h1, h2, h3, h4⟩ := h.ex
  have sh : ∀ a, shp (g a) = true := fun a => by
    show (_ && _) = true
    rw [h2 a, Bool.true_and, decide_eq_true_eq]
    exact Nat.le_trans (h3 a) hn
  unfold opEqG
  dsimp only
  rw [h0]
  dsimp only
  unfold opEqD wpy
  dsimp only
  rw [h1 a, h1 b]
  dsimp only
  rw [if_pos ⟨sh a, sh b⟩, h4]
theorem Lk.ne {f : α → D} {n : Nat} (h : Lk f n) (hn : n ≤ 64) {a b : α} {S : Sto} (h0 : eqS (f a) (f b) = none) : opNeG (.d (f a)) (.d (f b)) S = .ok (.d (.bl (!decide (a = b)))) S := by
  obtain ⟨g, h1, h2, h3, h4⟩ := h.ex
  have sh : ∀ a, shp (g a) = true := fun a => by
    show (_ && _) = true
    rw [h2 a, Bool.true_and, decide_eq_true_eq]
    exact Nat.le_trans (h3 a) hn
  unfold opNeG
  dsimp only
  rw [h0]
  dsimp only
  unfold opNeD wpy
  dsimp only
  rw [h1 a, h1 b]
  dsimp only
  rw [if_pos ⟨sh a, sh b⟩, h4]
theorem Lk.eqD {f : α → D} {n : Nat} (h : Lk f n) (hn : n ≤ 64) {a b : α} {S : Sto} : opEqD (.d (f a)) (.d (f b)) S = .ok (.d (.bl (decide (a = b)))) S := by
  obtain ⟨g, h1, h2, h3, h4⟩ := h.ex
  have sh : ∀ a, shp (g a) = true := fun a => by
    show (_ && _) = true
    rw [h2 a, Bool.true_and, decide_eq_true_eq]
    exact Nat.le_trans (h3 a) hn
  unfold opEqD wpy
  dsimp only
  rw [h1 a, h1 b]
  dsimp only
  rw [if_pos ⟨sh a, sh b⟩, h4]
theorem Lk.neD {f : α → D} {n : Nat} (h : Lk f n) (hn : n ≤ 64) {a b : α} {S : Sto} : opNeD (.d (f a)) (.d (f b)) S = .ok (.d (.bl (!decide (a = b)))) S := by
  obtain ⟨g, h1, h2, h3, h4⟩ := h.ex
  have sh : ∀ a, shp (g a) = true := fun a => by
    show (_ && _) = true
    rw [h2 a, Bool.true_and, decide_eq_true_eq]
    exact Nat.le_trans (h3 a) hn
  unfold opNeD wpy
  dsimp only
  rw [h1 a, h1 b]
  dsimp only
  rw [if_pos ⟨sh a, sh b⟩, h4]
end
end Lw

namespace Lw
open PySem PySem.Spec PyProof.Rows L2 Py
theorem szn {n : Nat} (h : n ≤ 1000000) : n ≤ sizeLine := Nat.le_trans h (by decide)
theorem rng0' {N i : Nat} {L : Int} {x : W} (hL : L = N) (h : (rng 0 L)[i]? = some x) : i < N ∧ x = .d (.int (i : Nat)) := by
  subst hL
  obtain ⟨h1, h2⟩ := rng_get (lo := 0) (f := fun i => 0 + (i : Int)) h
  refine ⟨by omega, ?_⟩
  rw [h2, Int.zero_add]
theorem rng0_len' {N : Nat} {L : Int} (hL : L = N) : (rng 0 L).length = N := by
  subst hL
  unfold rng
  simp
end Lw

namespace Lw
open PySem PySem.Spec PyProof.Rows L2 Py
/-! terms: written -/
theorem in_one {x a : Str} {S : Sto} (hx : PyData.strOk x = true) (ha : PyData.strOk a = true) : opIn (.d (.str x)) (.d (.lst [.str a])) S = .ok (.d (.bl (decide (x = a)))) S := by
  show inL false (.d (.str x)) (.d (.lst [.str a])) S = _
  unfold inL wpy
  dsimp only
  have e1 : D.py (.str x) = some (.str x) := by rw [D.py]
  have e2 : D.py (.lst [.str a]) = some (.list [PyData.str a]) := by simp [D.py, D.pyL]
  rw [e1, e2]
  dsimp only
  have h1 : shp (.str x) = true := by
    unfold shp
    simp [SeqAt.shaped, PyData.canLay0, PyData.depth, hx]
  have h2 : shp (.list [PyData.str a]) = true := by
    unfold shp
    simp [SeqAt.shaped, PyData.canLay0, PyData.canLayAll0, PyData.depth, PyData.depthAll, ha]
  rw [if_pos ⟨h1, h2⟩]
  congr 3
  rw [if_neg (by decide)]
  have ee : ∀ p q : Str, PyData.eqv (.str p) (.str q) = decide (q = p) := fun p q => by
    rw [PyData.eqv, Bool.eq_iff_iff, beq_iff_eq, decide_eq_true_eq]
    exact eq_comm
  simp [ee]
theorem in_two {x a b : Str} {S : Sto} (hx : PyData.strOk x = true) (ha : PyData.strOk a = true) (hb : PyData.strOk b = true) : opIn (.d (.str x)) (.d (.lst [.str a, .str b])) S = .ok (.d (.bl (decide (x = a ∨ x = b)))) S := by
  show inL false (.d (.str x)) (.d (.lst [.str a, .str b])) S = _
  unfold inL wpy
  dsimp only
  have e1 : D.py (.str x) = some (.str x) := by rw [D.py]
  have e2 : D.py (.lst [.str a, .str b]) = some (.list [PyData.str a, PyData.str b]) := by simp [D.py, D.pyL]
  rw [e1, e2]
  dsimp only
  have h1 : shp (.str x) = true := by
    unfold shp
    simp [SeqAt.shaped, PyData.canLay0, PyData.depth, hx]
  have h2 : shp (.list [PyData.str a, PyData.str b]) = true := by
    unfold shp
    simp [SeqAt.shaped, PyData.canLay0, PyData.canLayAll0, PyData.depth, PyData.depthAll, ha, hb]
  rw [if_pos ⟨h1, h2⟩]
  congr 3
  rw [if_neg (by decide)]
  have ee : ∀ p q : Str, PyData.eqv (.str p) (.str q) = decide (q = p) := fun p q => by
    rw [PyData.eqv, Bool.eq_iff_iff, beq_iff_eq, decide_eq_true_eq]
    exact eq_comm
  simp [ee]
theorem kind_ok (t : Tm) : PyData.strOk t.kind = true := by cases t <;> simp only [Tm.kind] <;> decide +kernel
theorem kP_ok : PyData.strOk kP = true := by decide +kernel
theorem kR_ok : PyData.strOk kR = true := by decide +kernel
theorem lev_cases (t : Tm) : (t.lev < 1 ↔ t.kind = kP) ∧ (t.lev < 2 ↔ t.kind = kP ∨ t.kind = kR) := by
  obtain ⟨e1, e2, e3, e4, e5, e6, e7, e8, e9, e10, e11, e12, e13, e14, e15, e16, e17, e18, e19, e20⟩ := kne
  cases t <;> simp only [Tm.lev, Tm.kind, e1, e2, e3, e4, e5, e6, e7, e8, e9, e10, e11, e12, e13, e14, e15, e16, e17, e18, e19, e20, true_or, or_true, or_false, iff_true, iff_false] <;> decide
theorem L_kind (t : Tm) {S : Sto} : opIx (.d t.L) (.d (.int 0)) S = .ok (.d (.str t.kind)) S := by
  cases t <;> simp only [Tm.L, Tm.kind] <;> rfl
theorem R_kind (t : Tm) {S : Sto} : opIx (.d t.R) (.d (.int 0)) S = .ok (.d (.str t.kind)) S := by
  cases t <;> simp only [Tm.R, Tm.kind] <;> rfl
theorem lpart1_ok {t : Tm} {n : Nat} {S : Sto} {Q : W → Sto → Prop} (hw : ∀ (S : Sto) (Q : W → Sto → Prop), Q (.d (.str t.txt)) S → (FT n i__law_write [.d t.L] S).sat Q) (ho : t.Ok) (hz : t.size ≤ 900) (h : Q (.d (.str (t.par 1))) S) : (FT (n + 1) i__law_part [.d t.L, .d (.lst [.str kP])] S).sat Q := by
  have hl := txt_len ho
  have s1 := sl1.1
  have s2 := sl1.2.1
  have z1 := szn (n := 1 + t.txt.length) (by omega)
  have z2 := szn (n := (Str.ofString "(" ++ t.txt).length + 1) (by rw [str_len, s1]; omega)
  unfold Tm.par at h
  have lc := (lev_cases t).1
  rw [FT__law_part]
  with_reducible refine run_sat (by simp) ?_
  unfold c__law_part
  with_reducible refine rs_cut (fun e S1 => S1 = S ∧ ¬ t.lev < 1 ∧ e = [some (.d t.L), some (.d (.lst [.str kP]))]) ?_ ?_
  · simp! [↓L_kind, ↓in_one (kind_ok t) kP_ok]
    refine br_of (fun h1 => ?_) (fun h1 => ?_)
    · have h1 : t.kind = kP := by simpa using h1
      rw [if_pos (lc.mpr h1)] at h
      simp!
      refine hw _ _ ?_
      simp! [s1, s2, z1, z2]
      rw [List.take_length]
      exact h
    · have h1 : ¬ t.kind = kP := by simpa using h1
      simp!
      exact fun z => h1 (lc.mp z)
  intro e S1 hh
  obtain ⟨hS, hlev, hE⟩ := hh
  subst hS hE
  rw [if_neg hlev] at h
  simp!
  refine hw _ _ ?_
  simp!
  rw [List.take_length]
  exact h
theorem lpart2_ok {t : Tm} {n : Nat} {S : Sto} {Q : W → Sto → Prop} (hw : ∀ (S : Sto) (Q : W → Sto → Prop), Q (.d (.str t.txt)) S → (FT n i__law_write [.d t.L] S).sat Q) (ho : t.Ok) (hz : t.size ≤ 900) (h : Q (.d (.str (t.par 2))) S) : (FT (n + 1) i__law_part [.d t.L, .d (.lst [.str kP, .str kR])] S).sat Q := by
  have hl := txt_len ho
  have s1 := sl1.1
  have s2 := sl1.2.1
  have z1 := szn (n := 1 + t.txt.length) (by omega)
  have z2 := szn (n := (Str.ofString "(" ++ t.txt).length + 1) (by rw [str_len, s1]; omega)
  unfold Tm.par at h
  have lc := (lev_cases t).2
  rw [FT__law_part]
  with_reducible refine run_sat (by simp) ?_
  unfold c__law_part
  with_reducible refine rs_cut (fun e S1 => S1 = S ∧ ¬ t.lev < 2 ∧ e = [some (.d t.L), some (.d (.lst [.str kP, .str kR]))]) ?_ ?_
  · simp! [↓L_kind, ↓in_two (kind_ok t) kP_ok kR_ok]
    refine br_of (fun h1 => ?_) (fun h1 => ?_)
    · have h1 : (t.kind = kP ∨ t.kind = kR) := by simpa using h1
      rw [if_pos (lc.mpr h1)] at h
      simp!
      refine hw _ _ ?_
      simp! [s1, s2, z1, z2]
      rw [List.take_length]
      exact h
    · have h1 : ¬ (t.kind = kP ∨ t.kind = kR) := by simpa using h1
      simp!
      exact fun z => h1 (lc.mp z)
  intro e S1 hh
  obtain ⟨hS, hlev, hE⟩ := hh
  subst hS hE
  rw [if_neg hlev] at h
  simp!
  refine hw _ _ ?_
  simp!
  rw [List.take_length]
  exact h
theorem tbl_kind (t : Tm) {S : Sto} : tblGet [(("plus" : Str), 0), (("row" : Str), 1), (("star" : Str), 2), (("number" : Str), 3), (("letter" : Str), 3)] (.d (.str t.kind)) S = .ok (.d (.int t.lev)) S := by
  obtain ⟨e1, e2, e3, e4, e5, e6, e7, e8, e9, e10, e11, e12, e13, e14, e15, e16, e17, e18, e19, e20⟩ := kne
  cases t <;> simp only [Tm.lev, Tm.kind, tblGet] <;> simp [e1, e2, e3, e4, e5, e6, e7, e8, e9, e10, e11, e12, e13, e14, e15, e16, e17, e18, e19, e20, List.find?_cons]
theorem wpart_ok {t : Tm} {k : Int} {n : Nat} {S : Sto} {Q : W → Sto → Prop} (hw : ∀ (S : Sto) (Q : W → Sto → Prop), Q (.d (.str t.txt)) S → (FT n i_write_sum [.d t.R] S).sat Q) (ho : t.Ok) (hz : t.size ≤ 900) (h : Q (.d (.str (t.par k))) S) : (FT (n + 1) i_write_part [.d t.R, .d (.int k)] S).sat Q := by
  have hl := txt_len ho
  have s1 := sl1.1
  have s2 := sl1.2.1
  have z1 := szn (n := 1 + t.txt.length) (by omega)
  have z2 := szn (n := (Str.ofString "(" ++ t.txt).length + 1) (by rw [str_len, s1]; omega)
  unfold Tm.par at h
  rw [FT_write_part]
  with_reducible refine run_sat (by simp) ?_
  unfold c_write_part
  simp_all!
  refine hw _ _ ?_
  simp!
  with_reducible refine rs_cut (fun e S1 => S1 = S ∧ ¬ t.lev < k ∧ e = [some (.d t.R), some (.d (.int k)), some (.d (.str t.txt))]) ?_ ?_
  · simp! [↓s_tbl, ↓R_kind, ↓tbl_kind]
    refine br_of (fun h1 => ?_) (fun h1 => ?_)
    · have h1 : t.lev < k := by simpa using h1
      rw [if_pos h1] at h
      simp! [s1, s2, z1, z2]
      rw [List.take_length]
      exact h
    · have h1 : ¬ t.lev < k := by simpa using h1
      simp!
      exact h1
  intro e S1 hh
  obtain ⟨hS, hlev, hE⟩ := hh
  subst hS hE
  rw [if_neg hlev] at h
  simp!
  rw [List.take_length]
  exact h
theorem par0 (t : Tm) : t.par 0 = t.txt := by
  unfold Tm.par
  cases t <;> simp [Tm.lev]
theorem par_len {t : Tm} {k : Int} (ho : t.Ok) : (t.par k).length ≤ 1000 * t.size + 2 := by
  have := txt_len ho
  unfold Tm.par
  split
  · rw [br_len]; omega
  · omega
theorem lwrite_ok : ∀ {t : Tm} {n : Nat} {S : Sto} {Q : W → Sto → Prop}, 2 * t.dep + 4 ≤ n → t.Ok → t.size ≤ 900 → Q (.d (.str t.txt)) S → (FT n i__law_write [.d t.L] S).sat Q := by
  obtain ⟨e1, e2, e3, e4, e5, e6, e7, e8, e9, e10, e11, e12, e13, e14, e15, e16, e17, e18, e19, e20⟩ := kne
  obtain ⟨s1, s2, s3, s4, s5⟩ := sl1
  have zz1 : (1 : Nat) ≤ sizeLine := by decide
  have zz2 : (2 : Nat) ≤ sizeLine := by decide
  intro t
  induction t with
  | num q =>
    intro n S Q hn ho hz h
    obtain ⟨n, rfl⟩ : ∃ k, n = k + 1 := ⟨n - 1, by omega⟩
    rw [FT__law_write]
    with_reducible refine run_sat (by simp) ?_
    unfold c__law_write
    simp_all! [Tm.L]
    refine ltext_ok (by omega) ho ?_
    simp!
    rw [List.take_length]
    exact h
  | ltr c =>
    intro n S Q hn ho hz h
    obtain ⟨n, rfl⟩ : ∃ k, n = k + 1 := ⟨n - 1, by omega⟩
    rw [FT__law_write]
    with_reducible refine run_sat (by simp) ?_
    unfold c__law_write
    simp_all! [Tm.L, e1, e2, e3, e4, e5, e6, e7, e8, e9, e10, e11, e12, e13, e14, e15, e16, e17, e18, e19, e20, zz1, zz2]
    simp_all! [e1, e2, e3, e4, e5, e6, e7, e8, e9, e10, e11, e12, e13, e14, e15, e16, e17, e18, e19, e20, zz1, zz2]
    rw [List.take_length]
    exact h
  | star a ih =>
    intro n S Q hn ho hz h
    simp only [Tm.dep, Tm.size] at hn hz
    obtain ⟨n, rfl⟩ : ∃ k, n = k + 2 := ⟨n - 2, by omega⟩
    have l1 := par_len (t := a) (k := 2) ho
    have z1 := szn (n := (a.par 2).length + 1) (by omega)
    rw [FT__law_write]
    with_reducible refine run_sat (by simp) ?_
    unfold c__law_write
    simp_all! [Tm.L, e1, e2, e3, e4, e5, e6, e7, e8, e9, e10, e11, e12, e13, e14, e15, e16, e17, e18, e19, e20, zz1, zz2]
    simp_all! [e1, e2, e3, e4, e5, e6, e7, e8, e9, e10, e11, e12, e13, e14, e15, e16, e17, e18, e19, e20, zz1, zz2]
    simp_all! [e1, e2, e3, e4, e5, e6, e7, e8, e9, e10, e11, e12, e13, e14, e15, e16, e17, e18, e19, e20, zz1, zz2]
    simp_all! [e1, e2, e3, e4, e5, e6, e7, e8, e9, e10, e11, e12, e13, e14, e15, e16, e17, e18, e19, e20, zz1, zz2]
    refine lpart2_ok (n := n) (fun S Q => ih (by omega) ho (by omega)) ho (by omega) ?_
    simp! [s5, z1]
    rw [List.take_length]
    exact h
  | plus a b iha ihb =>
    intro n S Q hn ho hz h
    simp only [Tm.dep, Tm.size] at hn hz
    obtain ⟨n, rfl⟩ : ∃ k, n = k + 2 := ⟨n - 2, by omega⟩
    have l1 := txt_len (t := a) ho.1
    have l2 := par_len (t := b) (k := 1) ho.2
    have z1 := szn (n := a.txt.length + 1) (by omega)
    have z2 := szn (n := (a.txt ++ Str.ofString "+").length + (b.par 1).length) (by rw [str_len, s3]; omega)
    rw [FT__law_write]
    with_reducible refine run_sat (by simp) ?_
    unfold c__law_write
    simp_all! [Tm.L, e1, e2, e3, e4, e5, e6, e7, e8, e9, e10, e11, e12, e13, e14, e15, e16, e17, e18, e19, e20, zz1, zz2]
    simp_all! [e1, e2, e3, e4, e5, e6, e7, e8, e9, e10, e11, e12, e13, e14, e15, e16, e17, e18, e19, e20, zz1, zz2]
    simp_all! [e1, e2, e3, e4, e5, e6, e7, e8, e9, e10, e11, e12, e13, e14, e15, e16, e17, e18, e19, e20, zz1, zz2]
    refine iha (by omega) ho.1 (by omega) ?_
    simp! [s3, z1, zz1, zz2]
    refine lpart1_ok (n := n) (fun S Q => ihb (by omega) ho.2 (by omega)) ho.2 (by omega) ?_
    simp! [z2]
    rw [List.take_length]
    exact h
  | row a b iha ihb =>
    intro n S Q hn ho hz h
    simp only [Tm.dep, Tm.size] at hn hz
    obtain ⟨n, rfl⟩ : ∃ k, n = k + 2 := ⟨n - 2, by omega⟩
    have l1 := par_len (t := a) (k := 1) ho.1
    have l2 := par_len (t := b) (k := 2) ho.2
    have z1 := szn (n := (a.par 1).length + 1) (by omega)
    have z2 := szn (n := (a.par 1 ++ Str.ofString ".").length + (b.par 2).length) (by rw [str_len, s4]; omega)
    rw [FT__law_write]
    with_reducible refine run_sat (by simp) ?_
    unfold c__law_write
    simp_all! [Tm.L, e1, e2, e3, e4, e5, e6, e7, e8, e9, e10, e11, e12, e13, e14, e15, e16, e17, e18, e19, e20, zz1, zz2]
    simp_all! [e1, e2, e3, e4, e5, e6, e7, e8, e9, e10, e11, e12, e13, e14, e15, e16, e17, e18, e19, e20, zz1, zz2]
    simp_all! [e1, e2, e3, e4, e5, e6, e7, e8, e9, e10, e11, e12, e13, e14, e15, e16, e17, e18, e19, e20, zz1, zz2]
    simp_all! [e1, e2, e3, e4, e5, e6, e7, e8, e9, e10, e11, e12, e13, e14, e15, e16, e17, e18, e19, e20, zz1, zz2]
    refine lpart1_ok (n := n) (fun S Q => iha (by omega) ho.1 (by omega)) ho.1 (by omega) ?_
    simp! [s4, z1, zz1, zz2]
    refine lpart2_ok (n := n) (fun S Q => ihb (by omega) ho.2 (by omega)) ho.2 (by omega) ?_
    simp! [z2]
    rw [List.take_length]
    exact h
theorem write_ok : ∀ {t : Tm} {n : Nat} {S : Sto} {Q : W → Sto → Prop}, 2 * t.dep + 4 ≤ n → t.Ok → t.size ≤ 900 → Q (.d (.str t.txt)) S → (FT n i_write_sum [.d t.R] S).sat Q := by
  obtain ⟨e1, e2, e3, e4, e5, e6, e7, e8, e9, e10, e11, e12, e13, e14, e15, e16, e17, e18, e19, e20⟩ := kne
  obtain ⟨s1, s2, s3, s4, s5⟩ := sl1
  intro t
  induction t with
  | num q =>
    intro n S Q hn ho hz h
    obtain ⟨n, rfl⟩ : ∃ k, n = k + 1 := ⟨n - 1, by omega⟩
    rw [FT_write_sum]
    with_reducible refine run_sat (by simp) ?_
    unfold c_write_sum
    simp_all! [Tm.R]
    refine text_ok (by omega) ho ?_
    simp!
    rw [List.take_length]
    exact h
  | ltr c =>
    intro n S Q hn ho hz h
    obtain ⟨n, rfl⟩ : ∃ k, n = k + 1 := ⟨n - 1, by omega⟩
    rw [FT_write_sum]
    with_reducible refine run_sat (by simp) ?_
    unfold c_write_sum
    simp_all! [Tm.R, e1, e2, e3, e4, e5, e6, e7, e8, e9, e10, e11, e12, e13, e14, e15, e16, e17, e18, e19, e20]
    simp_all! [e1, e2, e3, e4, e5, e6, e7, e8, e9, e10, e11, e12, e13, e14, e15, e16, e17, e18, e19, e20]
    rw [List.take_length]
    exact h
  | star a ih =>
    intro n S Q hn ho hz h
    simp only [Tm.dep, Tm.size] at hn hz
    obtain ⟨n, rfl⟩ : ∃ k, n = k + 2 := ⟨n - 2, by omega⟩
    have l1 := par_len (t := a) (k := 2) ho
    have z1 := szn (n := (a.par 2).length + 1) (by omega)
    rw [FT_write_sum]
    with_reducible refine run_sat (by simp) ?_
    unfold c_write_sum
    simp_all! [Tm.R, e1, e2, e3, e4, e5, e6, e7, e8, e9, e10, e11, e12, e13, e14, e15, e16, e17, e18, e19, e20]
    simp_all! [e1, e2, e3, e4, e5, e6, e7, e8, e9, e10, e11, e12, e13, e14, e15, e16, e17, e18, e19, e20]
    simp_all! [e1, e2, e3, e4, e5, e6, e7, e8, e9, e10, e11, e12, e13, e14, e15, e16, e17, e18, e19, e20]
    simp_all! [e1, e2, e3, e4, e5, e6, e7, e8, e9, e10, e11, e12, e13, e14, e15, e16, e17, e18, e19, e20]
    refine wpart_ok (n := n) (fun S Q => ih (by omega) ho (by omega)) ho (by omega) ?_
    simp! [s5, z1]
    rw [List.take_length]
    exact h
  | plus a b iha ihb =>
    intro n S Q hn ho hz h
    simp only [Tm.dep, Tm.size] at hn hz
    obtain ⟨n, rfl⟩ : ∃ k, n = k + 2 := ⟨n - 2, by omega⟩
    have l1 := txt_len (t := a) ho.1
    have l2 := par_len (t := b) (k := 1) ho.2
    have z1 := szn (n := a.txt.length + 1) (by omega)
    have z2 := szn (n := (a.txt ++ Str.ofString "+").length + (b.par 1).length) (by rw [str_len, s3]; omega)
    rw [FT_write_sum]
    with_reducible refine run_sat (by simp) ?_
    unfold c_write_sum
    simp_all! [Tm.R, e1, e2, e3, e4, e5, e6, e7, e8, e9, e10, e11, e12, e13, e14, e15, e16, e17, e18, e19, e20]
    simp_all! [e1, e2, e3, e4, e5, e6, e7, e8, e9, e10, e11, e12, e13, e14, e15, e16, e17, e18, e19, e20]
    simp_all! [e1, e2, e3, e4, e5, e6, e7, e8, e9, e10, e11, e12, e13, e14, e15, e16, e17, e18, e19, e20]
    refine wpart_ok (n := n) (fun S Q => iha (by omega) ho.1 (by omega)) ho.1 (by omega) ?_
    rw [par0]
    simp! [s3, z1]
    refine wpart_ok (n := n) (fun S Q => ihb (by omega) ho.2 (by omega)) ho.2 (by omega) ?_
    simp! [z2]
    rw [List.take_length]
    exact h
  | row a b iha ihb =>
    intro n S Q hn ho hz h
    simp only [Tm.dep, Tm.size] at hn hz
    obtain ⟨n, rfl⟩ : ∃ k, n = k + 2 := ⟨n - 2, by omega⟩
    have l1 := par_len (t := a) (k := 1) ho.1
    have l2 := par_len (t := b) (k := 2) ho.2
    have z1 := szn (n := (a.par 1).length + 1) (by omega)
    have z2 := szn (n := (a.par 1 ++ Str.ofString ".").length + (b.par 2).length) (by rw [str_len, s4]; omega)
    rw [FT_write_sum]
    with_reducible refine run_sat (by simp) ?_
    unfold c_write_sum
    simp_all! [Tm.R, e1, e2, e3, e4, e5, e6, e7, e8, e9, e10, e11, e12, e13, e14, e15, e16, e17, e18, e19, e20]
    simp_all! [e1, e2, e3, e4, e5, e6, e7, e8, e9, e10, e11, e12, e13, e14, e15, e16, e17, e18, e19, e20]
    simp_all! [e1, e2, e3, e4, e5, e6, e7, e8, e9, e10, e11, e12, e13, e14, e15, e16, e17, e18, e19, e20]
    simp_all! [e1, e2, e3, e4, e5, e6, e7, e8, e9, e10, e11, e12, e13, e14, e15, e16, e17, e18, e19, e20]
    refine wpart_ok (n := n) (fun S Q => iha (by omega) ho.1 (by omega)) ho.1 (by omega) ?_
    simp! [s4, z1]
    refine wpart_ok (n := n) (fun S Q => ihb (by omega) ho.2 (by omega)) ho.2 (by omega) ?_
    simp! [z2]
    rw [List.take_length]
    exact h
end Lw

namespace Lw
open PySem PySem.Spec PyProof.Rows L2 Py
/-! terms, drawn -/
theorem drawF_ok {n i m : Nat} {M : Int} {o : Ce} {S : Sto} {Q : W → Sto → Prop} (hn : 1 ≤ n) (hM : M = m) (ho : S[i]? = some o) (hf : Feed o) (h0 : 0 < m) (h1 : m < 1000000) (h : ∀ (r : Nat) o', r < m → Feed o' → Q (.d (.int (r : Nat))) (S.set i o')) : (FT n i__law_draw [.c i, .d (.int M)] S).sat Q := by
  subst hM
  refine draw_ok hn ho hf (by omega) (by omega) fun r o' r0 r1 hf' => ?_
  obtain ⟨k, rfl⟩ : ∃ k : Nat, r = k := ⟨r.toNat, by omega⟩
  exact h k o' (by omega) hf'
theorem dep_lt : ∀ t : Tm, t.dep + 1 ≤ t.size
  | .num _ => by simp [Tm.dep, Tm.size]
  | .ltr _ => by simp [Tm.dep, Tm.size]
  | .star a => by have := dep_lt a; simp only [Tm.dep, Tm.size]; omega
  | .plus a b => by have := dep_lt a; have := dep_lt b; simp only [Tm.dep, Tm.size]; omega
  | .row a b => by have := dep_lt a; have := dep_lt b; simp only [Tm.dep, Tm.size]; omega
theorem at_abcd' {c : Nat} (h : c < 4) : atI (Str.ofString "abcd").cps.toList (c : Int) = some (97 + c) := by
  have key : ∀ c, c < 4 → atI (Str.ofString "abcd").cps.toList ((c : Nat) : Int) = some (97 + c) := by decide +kernel
  exact key c h
theorem abcd_len' : (Str.ofString "abcd").length ≤ sizeLine := by decide +kernel
theorem tq_ofInt (z : Int) : D.tup [.int z, .int 1] = TQ (z : Rat) := rfl
theorem szI {z : Int} (h : z.natAbs < 1000) : Sz 1000 (z : Rat) := ⟨by rw [Rat.num_intCast]; exact Nat.lt_trans h (Nat.lt_of_lt_of_le (show 1000 < 2 ^ 10 by decide) (Nat.pow_le_pow_right (by decide) (by decide))), by rw [Rat.den_intCast]; exact Nat.one_lt_two_pow (by decide)⟩
theorem two_big {a : Nat} (h : a < 10000000000000000000000000000000000000000) : a < 2 ^ 1000 := Nat.lt_trans h (Nat.lt_of_lt_of_le (show 10000000000000000000000000000000000000000 < 2 ^ 133 by decide) (Nat.pow_le_pow_right (by decide) (by decide)))
theorem leaf_ok {n i : Nat} {wd : Int} {o : Ce} {S : Sto} {Q : W → Sto → Prop} (hn : 4 ≤ n) (hw : wd = 0 ∨ wd = 8) (ho : S[i]? = some o) (hf : Feed o) (hQ : ∀ (t : Tm) o', t.Ok → t.size = 1 → Feed o' → Q (.d t.L) (S.set i o')) : (FT n i__law_leaf [.c i, .d (.int wd)] S).sat Q := by
  obtain ⟨n, rfl⟩ : ∃ k, n = k + 1 := ⟨n - 1, by omega⟩
  have z2 : (2 : Nat) ≤ sizeLine := by decide
  have hi : i < S.length := (List.getElem?_eq_some_iff.mp ho).1
  have gD : ∀ (o : Ce), (S.set i o)[i]? = some o := fun o => by
    rw [List.getElem?_set, if_pos rfl, if_pos hi]
  have tk : ∀ (o : Ce), (S.set i o).take S.length = S.set i o := fun o => List.take_of_length_le (by simp)
  rw [FT__law_leaf]
  with_reducible refine run_sat (by simp) ?_
  unfold c__law_leaf
  simp_all!
  refine drawF_ok (m := 4) (by omega) rfl ho hf (by omega) (by omega) fun k o hk hf => ?_
  simp!
  with_reducible refine rs_cut (fun e S1 => ∃ o, e = [some (.c i), some (.d (.int wd)), some (.d (.int (k : Nat))), none] ∧ S1 = S.set i o ∧ Feed o) ?_ ?_
  · simp!
    refine br_of (fun h1 => ?_) (fun h1 => ?_)
    · simp!
      refine drawF_ok (m := 4) (by omega) rfl (gD _) hf (by omega) (by omega) fun c o hc hf => ?_
      rw [List.set_set]
      simp! [at_abcd' hc, abcd_len', z2]
      rw [tk]
      exact hQ (.ltr c) o hc rfl hf
    · simp!
      exact ⟨o, rfl, hf⟩
  intro e S1 hh
  obtain ⟨o, hE, hS, hf⟩ := hh
  subst hE hS
  with_reducible refine rs_cut (fun e S1 => ∃ o, e = [some (.c i), some (.d (.int wd)), some (.d (.int (k : Nat))), none] ∧ S1 = S.set i o ∧ Feed o) ?_ ?_
  · simp!
    refine br_of (fun h1 => ?_) (fun h1 => ?_)
    · simp!
      refine drawF_ok (m := 13) (by omega) rfl (gD _) hf (by omega) (by omega) fun c o hc hf => ?_
      rw [List.set_set]
      simp! [z2]
      rw [tk, tq_ofInt]
      exact hQ (.num (((c : Int) - 6 : Int) : Rat)) o (szI (by omega)) rfl hf
    · simp!
      exact ⟨o, rfl, hf⟩
  intro e S1 hh
  obtain ⟨o, hE, hS, hf⟩ := hh
  subst hE hS
  with_reducible refine rs_cut (fun e S1 => ∃ o, e = [some (.c i), some (.d (.int wd)), some (.d (.int (k : Nat))), none] ∧ S1 = S.set i o ∧ Feed o) ?_ ?_
  · rcases hw with rfl | rfl
    · simp!
      exact ⟨o, rfl, hf⟩
    · have m2 : ∀ x : Int, IntMulOk 2 x := fun x => mulOkL (by decide)
      simp!
      simp_all!
      refine great_ok (p := 8) (by omega) rfl (gD _) hf (by omega) fun a o a0 a1 hf => ?_
      rw [List.set_set]
      simp! [m2]
      refine drawF_ok (m := 2) (by omega) rfl (gD _) hf (by omega) (by omega) fun b o hb hf => ?_
      rw [List.set_set]
      have m3 : IntMulOk a (1 - 2 * (b : Int)) := mulOkR (by omega)
      have h8 : (100000 : Int) ^ 8 = 10000000000000000000000000000000000000000 := by decide
      rw [h8] at a1
      simp! [m2, m3]
      refine great_ok (p := 8) (by omega) rfl (gD _) hf (by omega) fun c o c0 c1 hf => ?_
      rw [List.set_set]
      rw [h8] at c1
      simp!
      have hA : (a * (1 - 2 * (b : Int))).natAbs < 2 ^ 1000 := by
        refine two_big ?_
        rcases (by omega : b = 0 ∨ b = 1) with rfl | rfl
        · simp
          omega
        · simp
          omega
      have hC : (if c > 1 then c else 1).natAbs < 2 ^ 1000 := two_big (by split <;> omega)
      refine pair_ok (k := 1000) (by omega) hA hC (by decide) (by split <;> omega) ?_
      simp! [z2]
      rw [tk]
      exact hQ (.num _) o (sz_divInt hA hC (by split <;> omega)) rfl hf
  intro e S1 hh
  obtain ⟨o, hE, hS, hf⟩ := hh
  subst hE hS
  simp!
  refine drawF_ok (m := 25) (by omega) rfl (gD _) hf (by omega) (by omega) fun a o ha hf => ?_
  rw [List.set_set]
  simp!
  refine drawF_ok (m := 12) (by omega) rfl (gD _) hf (by omega) (by omega) fun b o hb hf => ?_
  rw [List.set_set]
  simp!
  refine pair_ok (k := 10) (by omega) (by omega) (by omega) (by decide) (by omega) ?_
  simp! [z2]
  rw [tk]
  refine hQ (.num _) o ?_ rfl hf
  have := sz_divInt (k := 10) (a := (a : Int) - 12) (b := 1 + (b : Int)) (by omega) (by omega) (by omega)
  exact ⟨Nat.lt_of_lt_of_le this.1 (Nat.pow_le_pow_right (by decide) (by decide)), Nat.lt_of_lt_of_le this.2 (Nat.pow_le_pow_right (by decide) (by decide))⟩
theorem joined_ok {n i : Nat} {a b : Tm} {o : Ce} {S : Sto} {Q : W → Sto → Prop} (hn : 2 ≤ n) (ho : S[i]? = some o) (hf : Feed o) (ha : a.Ok) (hb : b.Ok) (hQ : ∀ (t : Tm) o', t.Ok → t.size = a.size + b.size + 1 → Feed o' → Q (.d t.L) (S.set i o')) : (FT n i__law_joined [.c i, .d a.L, .d b.L] S).sat Q := by
  obtain ⟨n, rfl⟩ : ∃ k, n = k + 1 := ⟨n - 1, by omega⟩
  have z2 : (2 : Nat) ≤ sizeLine := by decide
  have z3 : (3 : Nat) ≤ sizeLine := by decide
  have tk : ∀ (o : Ce), (S.set i o).take S.length = S.set i o := fun o => List.take_of_length_le (by simp)
  rw [FT__law_joined]
  with_reducible refine run_sat (by simp) ?_
  unfold c__law_joined
  simp! [z2]
  refine drawF_ok (m := 2) (by omega) rfl ho hf (by omega) (by omega) fun k o hk hf => ?_
  obtain ⟨kk, ek, t, ht, hto, hts⟩ : ∃ kk : Str, atI [W.d (D.str (Str.ofString "plus")), W.d (D.str (Str.ofString "row"))] (k : Int) = some (.d (.str kk)) ∧ ∃ t : Tm, t.L = .tup [.str kk, a.L, b.L] ∧ t.Ok ∧ t.size = a.size + b.size + 1 := by
    rcases (by omega : k = 0 ∨ k = 1) with rfl | rfl
    · exact ⟨kP, rfl, .plus a b, by simp [Tm.L], ⟨ha, hb⟩, rfl⟩
    · exact ⟨kR, rfl, .row a b, by simp [Tm.L], ⟨ha, hb⟩, rfl⟩
  simp! [ek, z3]
  rw [tk, ← ht]
  exact hQ t o hto hts hf
end Lw

namespace Lw
open PySem PySem.Spec PyProof.Rows L2 Py
/-! chains and bushes -/
def TmP (m : Nat) (t : Tm) : Prop := t.Ok ∧ t.size ≤ m
theorem chain_ok {n i m : Nat} {wd Mo : Int} {o : Ce} {S : Sto} {Q : W → Sto → Prop} (hn : 6 ≤ n) (hw : wd = 0 ∨ wd = 8) (hM : Mo = m) (hm : m ≤ 19) (ho : S[i]? = some o) (hf : Feed o) (hQ : ∀ (t : Tm) o', TmP 59 t → Feed o' → Q (.d t.L) (S.set i o')) : (FT n i__law_chain [.c i, .d (.int wd), .d (.int Mo)] S).sat Q := by
  obtain ⟨n, rfl⟩ : ∃ k, n = k + 1 := ⟨n - 1, by omega⟩
  subst hM
  have z2 : (2 : Nat) ≤ sizeLine := by decide
  have hsm : smallI (m : Int) = true := smallI_of (by omega) (by omega)
  have hi : i < S.length := (List.getElem?_eq_some_iff.mp ho).1
  have gD : ∀ (o : Ce), (S.set i o)[i]? = some o := fun o => by
    rw [List.getElem?_set, if_pos rfl, if_pos hi]
  have tk : ∀ (o : Ce), (S.set i o).take S.length = S.set i o := fun o => List.take_of_length_le (by simp)
  rw [FT__law_chain]
  with_reducible refine run_sat (by simp) ?_
  unfold c__law_chain
  simp_all!
  refine leaf_ok (by omega) hw ho hf fun t o ht hts hf => ?_
  simp!
  with_reducible refine rs_cut (fun e S1 => ∃ (t : Tm) (o : Ce) (x0 x1 x2 x4 x5 : Option W), e = [x0, x1, x2, some (.d t.L), x4, x5] ∧ S1 = S.set i o ∧ TmP 59 t ∧ Feed o) ?_ ?_
  · simp! [hsm]
    refine for_sat (fun j e S1 => ∃ (t : Tm) (o : Ce) (x2 x4 x5 : Option W), e = [some (.c i), some (.d (.int wd)), x2, some (.d t.L), x4, x5] ∧ S1 = S.set i o ∧ t.Ok ∧ t.size ≤ 1 + 2 * j ∧ Feed o) ⟨t, o, _, _, _, rfl, rfl, ht, by omega, hf⟩ ?_ ?_
    · rintro j x e S1 hx ⟨t, o, x2, x4, x5, rfl, rfl, ht, hts, hf⟩
      obtain ⟨hj, rfl⟩ := rng0' (N := m) rfl hx
      refine ⟨trivial, _, rfl, ?_⟩
      simp_all!
      refine drawF_ok (m := 3) (by omega) rfl (gD _) hf (by omega) (by omega) fun k o hk hf => ?_
      rw [List.set_set]
      simp!
      refine br_of (fun h1 => ?_) (fun h1 => ?_)
      · simp! [z2]
        refine ⟨.star t, o, none, some (.d (.int (j : Nat))), some (.d (.int (k : Nat))), ?_, rfl, ht, by simp only [Tm.size]; omega, hf⟩
        rw [Tm.L]
      · simp!
        refine br_of (fun h2 => ?_) (fun h2 => ?_)
        · simp!
          refine leaf_ok (by omega) hw (gD _) hf fun t2 o ht2 hts2 hf => ?_
          rw [List.set_set]
          simp!
          refine joined_ok (by omega) (gD _) hf ht ht2 fun t3 o ht3 hts3 hf => ?_
          rw [List.set_set]
          simp!
          exact ⟨t3, o, _, _, _, rfl, rfl, ht3, by omega, hf⟩
        · simp!
          refine leaf_ok (by omega) hw (gD _) hf fun t2 o ht2 hts2 hf => ?_
          rw [List.set_set]
          simp!
          refine joined_ok (by omega) (gD _) hf ht2 ht fun t3 o ht3 hts3 hf => ?_
          rw [List.set_set]
          simp!
          exact ⟨t3, o, _, _, _, rfl, rfl, ht3, by omega, hf⟩
    · rintro e S1 ⟨t, o, x2, x4, x5, rfl, rfl, ht, hts, hf⟩
      have hl : (rng 0 (m : Int)).length = m := rng0_len' (N := m) rfl
      rw [hl] at hts
      exact ⟨trivial, t, o, _, _, _, _, _, rfl, rfl, ⟨ht, by omega⟩, hf⟩
  intro e S1 hh
  obtain ⟨t, o, x0, x1, x2, x4, x5, hE, hS, ht, hf⟩ := hh
  subst hE hS
  simp!
  rw [tk]
  exact hQ t o ht hf
end Lw

namespace Lw
open PySem PySem.Spec PyProof.Rows L2 Py
/-! bushes -/
abbrev lsT (L : List Tm) : List W := (L.map Tm.L).map W.d
def szT (L : List Tm) : Nat := (L.map Tm.size).sum
theorem szT_app (A B : List Tm) : szT (A ++ B) = szT A + szT B := by simp [szT]
theorem szT_cons (a : Tm) (B : List Tm) : szT (a :: B) = a.size + szT B := by simp [szT]
theorem tm_pos (t : Tm) : 1 ≤ t.size := by cases t <;> simp only [Tm.size] <;> omega
theorem szT_mem {t : Tm} : ∀ {L : List Tm}, t ∈ L → t.size ≤ szT L
  | a :: L, h => by
    rw [szT_cons]
    rcases List.mem_cons.mp h with rfl | h
    · omega
    · have := szT_mem h; omega
theorem ctT_take {α : Type} (xs : List α) (k : Nat) : cutL xs none (some (k : Int)) = xs.take k := by
  unfold cutL
  rw [HT.sIx_none, HT.sIx_nat, List.drop_zero, Nat.sub_zero]
  rw [List.take_eq_take_iff]
  omega
theorem ctT_drop {α : Type} (xs : List α) (k : Nat) : cutL xs (some (k : Int)) none = xs.drop k := by
  unfold cutL
  rw [HT.sIx_none, HT.sIx_nat]
  apply List.ext_getElem?
  intro j
  rw [List.getElem?_take, List.getElem?_drop, List.getElem?_drop]
  split
  · by_cases h : k ≤ xs.length
    · rw [Nat.min_eq_left h]
    · rw [List.getElem?_eq_none (by omega), List.getElem?_eq_none (by omega)]
  · rw [List.getElem?_eq_none (by omega)]
theorem split2 {α : Type} : ∀ {L : List α} {a : Nat} {x y : α}, L[a]? = some x → L[a + 1]? = some y → L = L.take a ++ x :: y :: L.drop (a + 2)
  | [], a, x, y, h, k => by simp at h
  | z :: L, 0, x, y, h, k => by
    cases L with
    | nil => simp at k
    | cons u L =>
      simp at h k
      subst h k
      simp
  | z :: L, a + 1, x, y, h, k => by
    simp only [List.getElem?_cons_succ] at h k
    rw [List.take_succ_cons, List.cons_append, List.drop_succ_cons]
    exact congrArg _ (split2 h k)
theorem split1 {α : Type} : ∀ {L : List α} {a : Nat} {x y : α}, L[a]? = some x → L = L.take a ++ x :: L.drop (a + 1) ∧ L.set a y = L.take a ++ y :: L.drop (a + 1)
  | [], a, x, y, h => by simp at h
  | z :: L, 0, x, y, h => by
    simp at h
    subst h
    simp
  | z :: L, a + 1, x, y, h => by
    simp only [List.getElem?_cons_succ] at h
    have := split1 (y := y) h
    rw [List.take_succ_cons, List.cons_append, List.drop_succ_cons, List.set_cons_succ, List.cons_append]
    exact ⟨congrArg _ this.1, congrArg _ this.2⟩
theorem atI_T {L : List Tm} {a : Nat} {t : Tm} (h : L[a]? = some t) : atI (lsT L) (a : Int) = some (.d t.L) := by
  refine atI_nat ?_
  rw [List.getElem?_map, List.getElem?_map, h]
  rfl
theorem ixN_T {n a : Nat} (h : a < n) : ixN n (a : Int) = some a := by
  unfold ixN
  rw [if_pos (by omega), if_pos (by omega), Int.toNat_natCast]
theorem lsT_set {L : List Tm} {a : Nat} {t : Tm} {x : D} (h : x = t.L) : (lsT L).set a (.d x) = lsT (L.set a t) := by
  subst h
  rw [lsT, lsT, List.map_set, List.map_set]
theorem get_sb {D : Sto} {b : Nat} {o x : Ce} (h : D[b]? = some o) : (D.set b x)[b]? = some x := by
  rw [List.getElem?_set, if_pos rfl, if_pos (List.getElem?_eq_some_iff.mp h).1]
theorem ap_get {S D : Sto} {i : Nat} {o : Ce} (hi : i < S.length) : (S.set i o ++ D)[i]? = some o := by
  rw [List.getElem?_append_left (by simpa using hi), List.getElem?_set, if_pos rfl, if_pos hi]
theorem ap_set {S D : Sto} {i : Nat} {o o' : Ce} (hi : i < S.length) : (S.set i o ++ D).set i o' = S.set i o' ++ D := by
  rw [List.set_append_left _ _ (by simpa using hi), List.set_set]
theorem ap_getb {S D : Sto} {i b : Nat} {o : Ce} : (S.set i o ++ D)[S.length + b]? = D[b]? := by
  rw [List.getElem?_append_right (by simp), List.length_set, Nat.add_sub_cancel_left]
theorem ap_setb {S D : Sto} {i b : Nat} {o x : Ce} : (S.set i o ++ D).set (S.length + b) x = S.set i o ++ D.set b x := by
  rw [List.set_append_right _ _ (by simp), List.length_set, Nat.add_sub_cancel_left]
theorem ap_take {S D : Sto} {i : Nat} {o : Ce} : (S.set i o ++ D).take S.length = S.set i o := by
  rw [List.take_append_of_le_length (by simp), List.take_of_length_le (by simp)]
theorem bush_ok {n i : Nat} {wd : Int} {o : Ce} {S : Sto} {Q : W → Sto → Prop} (hn : 6 ≤ n) (hw : wd = 0 ∨ wd = 8) (ho : S[i]? = some o) (hf : Feed o) (hQ : ∀ (t : Tm) o', TmP 59 t → Feed o' → Q (.d t.L) (S.set i o')) : (FT n i__law_bush [.c i, .d (.int wd)] S).sat Q := by
  obtain ⟨n, rfl⟩ : ∃ k, n = k + 1 := ⟨n - 1, by omega⟩
  have z1 : (1 : Nat) ≤ sizeLine := by decide
  have z2 : (2 : Nat) ≤ sizeLine := by decide
  have hi : i < S.length := (List.getElem?_eq_some_iff.mp ho).1
  have gD : ∀ (o : Ce), (S.set i o)[i]? = some o := fun o => by
    rw [List.getElem?_set, if_pos rfl, if_pos hi]
  rw [FT__law_bush]
  with_reducible refine run_sat (by simp) ?_
  unfold c__law_bush
  simp_all!
  refine drawF_ok (m := 10) (by omega) rfl ho hf (by omega) (by omega) fun c o hc hf => ?_
  have hsm : smallI (1 + (c : Int)) = true := smallI_of (by omega) (by omega)
  simp! [hsm]
  refine comp_sat (fun j ys S1 => ∃ (L : List Tm) (o : Ce), S1 = S.set i o ∧ ys = lsT L ∧ L.length = j ∧ (∀ t ∈ L, t.Ok) ∧ szT L = j ∧ Feed o) ⟨[], o, rfl, rfl, rfl, by simp, rfl, hf⟩ ?_ ?_
  · rintro j x ys S1 hx ⟨L, o, rfl, rfl, hl, hok, hsz, hf⟩
    obtain ⟨hj, rfl⟩ := rng0' (N := 1 + c) (by omega) hx
    refine ⟨trivial, _, rfl, ?_⟩
    simp!
    refine leaf_ok (by omega) hw (gD _) hf fun t o ht hts hf => ?_
    rw [List.set_set]
    refine ⟨L ++ [t], o, rfl, by simp, by simp [hl], ?_, ?_, hf⟩
    · intro u hu
      rcases List.mem_append.mp hu with hu | hu
      · exact hok u hu
      · rw [List.mem_singleton.mp hu]; exact ht
    · rw [szT_app, szT_cons, hsz, hts]; rfl
  rintro ys S1 ⟨L, o, rfl, rfl, hl, hok, hsz, hf⟩
  rw [rng0_len' (N := 1 + c) (by omega)] at hl hsz
  refine ⟨trivial, ?_⟩
  have zl : L.length ≤ 16777216 := by omega
  simp! [zl]
  with_reducible refine rs_cut (fun e S1 => ∃ (L : List Tm) (o : Ce) (D : Sto) (b : Nat) (x0 x1 x3 x4 x5 : Option W), e = [x0, x1, some (.c (S.length + b)), x3, x4, x5] ∧ S1 = S.set i o ++ D ∧ D[b]? = some (.lst (lsT L)) ∧ L ≠ [] ∧ L.length ≤ 10 ∧ (∀ t ∈ L, t.Ok) ∧ szT L ≤ 28 ∧ Feed o) ?_ ?_
  · simp!
    refine for_sat (fun j e S1 => ∃ (L : List Tm) (o : Ce) (D : Sto) (b : Nat) (x1 x3 x4 x5 : Option W), e = [some (.c i), x1, some (.c (S.length + b)), x3, x4, x5] ∧ S1 = S.set i o ++ D ∧ D[b]? = some (.lst (lsT L)) ∧ L ≠ [] ∧ L.length ≤ 10 ∧ (∀ t ∈ L, t.Ok) ∧ szT L ≤ 10 + 2 * j ∧ Feed o) ?_ ?_ ?_
    · refine ⟨L, o, [.lst (lsT L)], 0, _, _, _, _, rfl, rfl, rfl, ?_, by omega, hok, by omega, hf⟩
      intro h0
      rw [h0] at hl
      simp at hl
      omega
    · rintro j x e S1 hx ⟨L, o, D, b, x1, x3, x4, x5, rfl, rfl, hb, hne, hl, hok, hsz, hf⟩
      obtain ⟨hj, rfl⟩ := rng0' (N := 9) rfl hx
      have hlp : 0 < L.length := List.length_pos_iff.mpr hne
      refine ⟨trivial, _, rfl, ?_⟩
      with_reducible refine rs_cut (fun e S1 => ∃ (L : List Tm) (o : Ce) (D : Sto) (b : Nat) (x1 x3 x4 x5 : Option W), e = [some (.c i), x1, some (.c (S.length + b)), x3, x4, x5] ∧ S1 = S.set i o ++ D ∧ D[b]? = some (.lst (lsT L)) ∧ L ≠ [] ∧ L.length ≤ 10 ∧ (∀ t ∈ L, t.Ok) ∧ szT L ≤ 11 + 2 * j ∧ Feed o) ?_ ?_
      · simp!
        refine drawF_ok (m := 3) (by omega) rfl (ap_get hi) hf (by omega) (by omega) fun k o hk hf => ?_
        rw [ap_set hi]
        simp!
        refine br_of (fun h1 => ?_) (fun h1 => ?_)
        · simp_all! [ap_getb, hb]
          refine drawF_ok (m := L.length) (by omega) rfl (ap_get hi) hf (by omega) (by omega) fun a o ha hf => ?_
          rw [ap_set hi]
          obtain ⟨t, ht⟩ : ∃ t, L[a]? = some t := ⟨L[a], List.getElem?_eq_getElem ha⟩
          have ea := atI_T ht
          obtain ⟨es, et⟩ := split1 (y := Tm.star t) ht
          simp! [ap_getb, hb, ea, z2, ixN_T ha, ap_setb, lsT_set (t := Tm.star t) (a := a) (L := L) (by rw [Tm.L])]
          refine ⟨L.set a (.star t), o, _, b, _, _, _, _, rfl, rfl, get_sb hb, ?_, ?_, ?_, ?_, hf⟩
          · rw [et]; simp
          · rw [List.length_set]; exact hl
          · intro u hu
            rw [et] at hu
            rw [es] at hok
            rcases List.mem_append.mp hu with h | h
            · exact hok u (List.mem_append.mpr (.inl h))
            · rcases List.mem_cons.mp h with rfl | h
              · exact hok t (by simp)
              · exact hok u (by simp [h])
          · rw [et, szT_app, szT_cons]
            rw [es, szT_app, szT_cons] at hsz
            simp only [Tm.size]
            omega
        · simp!
          exact ⟨L, o, D, b, _, _, _, _, rfl, rfl, hb, hne, hl, hok, by omega, hf⟩
      clear hx
      intro e S1 hh
      obtain ⟨L, o, D, b, x1, x3, x4, x5, hE, hS, hb, hne, hl, hok, hsz, hf⟩ := hh
      subst hE hS
      simp! [ap_getb, hb]
      refine br_of (fun h1 => ?_) (fun h1 => ?_)
      · simp_all! [ap_getb, hb]
        refine drawF_ok (m := L.length - 1) (by omega) (by omega) (ap_get hi) hf (by omega) (by omega) fun a o ha hf => ?_
        rw [ap_set hi]
        obtain ⟨t, ht⟩ : ∃ t, L[a]? = some t := ⟨L[a], List.getElem?_eq_getElem (by omega)⟩
        obtain ⟨t2, ht2⟩ : ∃ t, L[a + 1]? = some t := ⟨L[a + 1], List.getElem?_eq_getElem (by omega)⟩
        have ea := atI_T ht
        have ea2 : atI (lsT L) ((a : Int) + 1) = some (.d t2.L) := atI_T ht2
        have es := split2 ht ht2
        have c1 : cutL (L.map Tm.L) none (some (a : Int)) = (L.take a).map Tm.L := by rw [ctT_take, List.map_take]
        have c2 : cutL (L.map Tm.L) (some ((a : Int) + 2)) none = (L.drop (a + 2)).map Tm.L := by
          have := ctT_drop (L.map Tm.L) (a + 2)
          rw [List.map_drop]
          exact this
        simp! [ap_getb, hb, ea, ea2, z1, z2, c1, c2]
        refine joined_ok (by omega) (ap_get hi) hf (hok t (List.mem_of_getElem? ht)) (hok t2 (List.mem_of_getElem? ht2)) fun t3 o ht3 hts3 hf => ?_
        rw [ap_set hi]
        have zz : (L.take a).length + 1 ≤ sizeLine := szn (by rw [List.length_take]; omega)
        have zz2 : (L.take a).length + 1 + (L.drop (a + 2)).length ≤ sizeLine := szn (by rw [List.length_take, List.length_drop]; omega)
        simp! [ap_getb, hb, ea, ea2, z1, z2, c1, c2, opAddC, zz, zz2]
        refine ⟨L.take a ++ t3 :: L.drop (a + 2), o, D ++ [.lst (lsT (L.take a ++ t3 :: L.drop (a + 2)))], D.length, _, _, _, _, rfl, ?_, ?_, ?_, ?_, ?_, ?_, hf⟩
        · rw [List.append_assoc]
          simp [lsT]
        · simp
        · simp
        · rw [List.length_append, List.length_cons, List.length_take, List.length_drop]
          omega
        · intro u hu
          rw [es] at hok
          rcases List.mem_append.mp hu with h | h
          · exact hok u (List.mem_append.mpr (.inl h))
          · rcases List.mem_cons.mp h with rfl | h
            · exact ht3
            · exact hok u (by simp [h])
        · rw [szT_app, szT_cons, hts3]
          rw [es, szT_app, szT_cons, szT_cons] at hsz
          omega
      · simp!
        exact ⟨L, o, D, b, _, _, _, _, rfl, rfl, hb, hne, hl, hok, by omega, hf⟩
    · rintro e S1 ⟨L, o, D, b, x1, x3, x4, x5, rfl, rfl, hb, hne, hl, hok, hsz, hf⟩
      have hr : (rng 0 9).length = 9 := rng0_len' (N := 9) rfl
      rw [hr] at hsz
      exact ⟨trivial, L, o, D, b, _, _, _, _, _, rfl, rfl, hb, hne, hl, hok, by omega, hf⟩
  intro e S1 hh
  obtain ⟨L, o, D, b, x0, x1, x3, x4, x5, rfl, rfl, hb, hne, hl, hok, hsz, hf⟩ := hh
  obtain ⟨t, L, rfl⟩ : ∃ t L', L = t :: L' := by
    cases L with
    | nil => exact absurd rfl hne
    | cons t L => exact ⟨t, L, rfl⟩
  simp! [ap_getb, hb, ap_setb, ap_take]
  refine hQ t o ⟨hok t (by simp), ?_⟩ hf
  have := szT_mem (t := t) (L := t :: L) (by simp)
  omega
end Lw

namespace Lw
open PySem PySem.Spec PyProof.Rows L2 Py
/-! wide terms -/
theorem ctT_mid {α : Type} (xs : List α) (a : Nat) : cutL xs (some (a : Int)) (some ((a : Int) + 2)) = (xs.drop a).take 2 := by
  have e : ((a : Int) + 2) = ((a + 2 : Nat) : Int) := by omega
  unfold cutL
  rw [e, HT.sIx_nat, HT.sIx_nat]
  apply List.ext_getElem?
  intro j
  rw [List.getElem?_take, List.getElem?_take, List.getElem?_drop, List.getElem?_drop]
  by_cases h : a ≤ xs.length
  · rw [Nat.min_eq_left h]
    by_cases h2 : j < 2
    · rw [if_pos h2]
      split
      · rfl
      · rw [List.getElem?_eq_none (by omega)]
    · rw [if_neg h2, if_neg (by omega)]
  · rw [List.getElem?_eq_none (by omega), List.getElem?_eq_none (by omega)]
    split <;> split <;> rfl
theorem rgS2 {l : Nat} {N : Int} (hN : N = l) (h : l ≤ 60) : rgS (.d (.int 0)) (.d (.int N)) (.d (.int 2)) = some ((List.range ((l + 1) / 2)).map fun i => W.d (.int ((2 * i : Nat) : Nat)), fun _ => True) := by
  subst hN
  have k1 : ∀ l, l ≤ 60 → Builtin.Range.small 0 ((l : Nat) : Int) 2 = true := by decide +kernel
  have k2 : ∀ l, l ≤ 60 → (Builtin.Range.rangeSize 0 ((l : Nat) : Int) 2).toNat = (l + 1) / 2 := by decide +kernel
  unfold rgS
  dsimp only
  rw [if_pos ⟨by decide, by decide, k1 l h⟩]
  unfold rngS
  rw [k2 l h]
  congr 2
  apply List.map_congr_left
  intro i _
  congr 2
  omega
theorem szT_take {L : List Tm} {k : Nat} {a b : Tm} (ha : L[k]? = some a) (hb : L[k + 1]? = some b) : szT (L.take (k + 2)) = szT (L.take k) + a.size + b.size := by
  rw [show k + 2 = (k + 1) + 1 from rfl, List.take_succ, hb, List.take_succ, ha, szT_app, szT_app]
  simp [szT]
theorem wide_ok {n i : Nat} {wd : Int} {o : Ce} {S : Sto} {Q : W → Sto → Prop} (hn : 6 ≤ n) (hw : wd = 0 ∨ wd = 8) (ho : S[i]? = some o) (hf : Feed o) (hQ : ∀ (t : Tm) o', TmP 59 t → Feed o' → Q (.d t.L) (S.set i o')) : (FT n i__law_wide_term [.c i, .d (.int wd)] S).sat Q := by
  obtain ⟨n, rfl⟩ : ∃ k, n = k + 1 := ⟨n - 1, by omega⟩
  have z1 : (1 : Nat) ≤ sizeLine := by decide
  have z2 : (2 : Nat) ≤ sizeLine := by decide
  have hi : i < S.length := (List.getElem?_eq_some_iff.mp ho).1
  have gD : ∀ (o : Ce), (S.set i o)[i]? = some o := fun o => by
    rw [List.getElem?_set, if_pos rfl, if_pos hi]
  have tk : ∀ (o : Ce), (S.set i o).take S.length = S.set i o := fun o => List.take_of_length_le (by simp)
  rw [FT__law_wide_term]
  with_reducible refine run_sat (by simp) ?_
  unfold c__law_wide_term
  simp_all!
  refine comp_sat (fun j ys S1 => ∃ (L : List Tm) (o : Ce), S1 = S.set i o ∧ ys = lsT L ∧ L.length = j ∧ (∀ t ∈ L, t.Ok) ∧ szT L = j ∧ Feed o) ⟨[], o, ?_, rfl, rfl, by simp, rfl, hf⟩ ?_ ?_
  · apply List.ext_getElem?
    intro j
    rw [List.getElem?_set]
    split
    · rename_i h0
      subst h0
      exact ho
    · rfl
  · rintro j x ys S1 hx ⟨L, o, rfl, rfl, hl, hok, hsz, hf⟩
    obtain ⟨hj, rfl⟩ := rng0' (N := 30) rfl hx
    refine ⟨trivial, _, rfl, ?_⟩
    simp!
    refine leaf_ok (by omega) hw (gD _) hf fun t o ht hts hf => ?_
    rw [List.set_set]
    refine ⟨L ++ [t], o, rfl, by simp, by simp [hl], ?_, ?_, hf⟩
    · intro u hu
      rcases List.mem_append.mp hu with hu | hu
      · exact hok u hu
      · rw [List.mem_singleton.mp hu]; exact ht
    · rw [szT_app, szT_cons, hsz, hts]; rfl
  rintro ys S1 ⟨L, o, rfl, rfl, hl, hok, hsz, hf⟩
  replace hl : L.length = 30 := by rw [hl]; exact rng0_len' (N := 30) rfl
  replace hsz : szT L = 30 := by rw [hsz]; exact rng0_len' (N := 30) rfl
  refine ⟨trivial, ?_⟩
  have zl : L.length ≤ 16777216 := by omega
  simp! [zl]
  with_reducible refine rs_cut (fun e S1 => ∃ (L : List Tm) (o : Ce) (x0 x1 x3 x4 x5 x6 : Option W), e = [x0, x1, some (.d (.lst (L.map Tm.L))), x3, x4, x5, x6] ∧ S1 = S.set i o ∧ L ≠ [] ∧ (∀ t ∈ L, t.Ok) ∧ szT L + L.length ≤ 60 ∧ Feed o) ?_ ?_
  · simp!
    refine for_sat (fun j e S1 => ∃ (L : List Tm) (o : Ce) (x1 x3 x4 x5 x6 : Option W), e = [some (.c i), x1, some (.d (.lst (L.map Tm.L))), x3, x4, x5, x6] ∧ S1 = S.set i o ∧ L ≠ [] ∧ (∀ t ∈ L, t.Ok) ∧ szT L + L.length ≤ 60 ∧ Feed o) ?_ ?_ ?_
    · refine ⟨L, o, _, _, _, _, _, rfl, rfl, ?_, hok, by omega, hf⟩
      intro h0
      rw [h0] at hl
      simp at hl
    · rintro j x e S1 hx ⟨L, o, x1, x3, x4, x5, x6, rfl, rfl, hne, hok, hsz, hf⟩
      obtain ⟨hj, rfl⟩ := rng0' (N := 5) rfl hx
      have hlp : 0 < L.length := List.length_pos_iff.mpr hne
      refine ⟨trivial, _, rfl, ?_⟩
      simp_all! [↓s_rS, rgS2 (l := L.length) rfl (by omega)]
      refine comp_each (l := List.range ((L.length + 1) / 2)) (mk := fun i => W.d (.int ((2 * i : Nat) : Nat))) (f := fun i => .lst (((L.drop (2 * i)).take 2).map Tm.L)) rfl ?_ trivial ?_
      · intro a _
        refine ⟨_, rfl, ?_⟩
        simp! [ctT_mid]
        rw [List.map_take, List.map_drop]
      have zr : (L.length + 1) / 2 ≤ 16777216 := by omega
      simp! [List.length_range, zr]
      refine compT_sat (fun r ys S1 => ∃ (M : List Tm) (o : Ce), S1 = S.set i o ∧ ys = lsT M ∧ M.length = min r (L.length / 2) ∧ (∀ t ∈ M, t.Ok) ∧ szT M + M.length = szT (L.take (2 * min r (L.length / 2))) + 2 * min r (L.length / 2) ∧ Feed o) ⟨[], o, rfl, rfl, by simp, by simp, by simp [szT], hf⟩ ?_ ?_
      · rintro r x ys S1 hx ⟨M, o, rfl, rfl, hl, hmk, hsm, hf⟩
        obtain ⟨hr, rfl⟩ : r < (L.length + 1) / 2 ∧ x = W.d (.lst (((L.drop (2 * r)).take 2).map Tm.L)) := by
          rw [List.getElem?_map, List.getElem?_map] at hx
          by_cases h : r < (L.length + 1) / 2
          · rw [List.getElem?_range h] at hx
            cases hx
            exact ⟨h, rfl⟩
          · rw [List.getElem?_eq_none (by simpa using h)] at hx
            cases hx
        refine ⟨trivial, _, rfl, ?_⟩
        by_cases h2 : 2 * r + 1 < L.length
        · obtain ⟨t, ht⟩ : ∃ t, L[2 * r]? = some t := ⟨L[2 * r], List.getElem?_eq_getElem (by omega)⟩
          obtain ⟨t2, ht2⟩ : ∃ t, L[2 * r + 1]? = some t := ⟨L[2 * r + 1], List.getElem?_eq_getElem (by omega)⟩
          have ep : (L.drop (2 * r)).take 2 = [t, t2] := by
            apply List.ext_getElem?
            intro q
            rw [List.getElem?_take, List.getElem?_drop]
            rcases (by omega : q = 0 ∨ q = 1 ∨ 2 ≤ q) with rfl | rfl | h
            · simp [ht]
            · simp [ht2]
            · rw [if_neg (by omega), List.getElem?_eq_none (by simpa using h)]
          rw [ep]
          have e2 : (((2 : Nat) : Int) = 2) = True := by decide
          simp! [e2]
          have em : atI [W.d t.L, W.d t2.L] (-1) = some (W.d t2.L) := rfl
          simp! [em]
          refine joined_ok (by omega) (gD _) hf (hok t (List.mem_of_getElem? ht)) (hok t2 (List.mem_of_getElem? ht2)) fun t3 o ht3 hts3 hf => ?_
          rw [List.set_set]
          have m1 : min r (L.length / 2) = r := by omega
          have m2 : min (r + 1) (L.length / 2) = r + 1 := by omega
          rw [m1] at hl hsm
          rw [m2]
          refine ⟨M ++ [t3], o, rfl, by simp, by simp [hl], ?_, ?_, hf⟩
          · intro u hu
            rcases List.mem_append.mp hu with hu | hu
            · exact hmk u hu
            · rw [List.mem_singleton.mp hu]; exact ht3
          · rw [szT_app, szT_cons, List.length_append, hts3, show 2 * (r + 1) = 2 * r + 2 by omega, szT_take ht ht2]
            have : szT ([] : List Tm) = 0 := rfl
            have : ([t3] : List Tm).length = 1 := rfl
            omega
        · have ep : ∃ t, (L.drop (2 * r)).take 2 = [t] := by
            refine ⟨L[2 * r], ?_⟩
            apply List.ext_getElem?
            intro q
            rw [List.getElem?_take, List.getElem?_drop]
            rcases (by omega : q = 0 ∨ 1 ≤ q) with rfl | h
            · simp
            · rw [List.getElem?_eq_none (by omega), List.getElem?_eq_none (by simpa using h)]
              simp
          obtain ⟨t, ep⟩ := ep
          rw [ep]
          simp!
          rw [if_neg (by decide)]
          have m1 : min (r + 1) (L.length / 2) = min r (L.length / 2) := by omega
          rw [m1]
          exact ⟨M, o, rfl, rfl, hl, hmk, hsm, hf⟩
      · rintro ys S1 ⟨M, o, rfl, rfl, hl, hmk, hsm, hf⟩
        refine ⟨trivial, ?_⟩
        have m1 : min ((L.length + 1) / 2) (L.length / 2) = L.length / 2 := by omega
        simp only [List.length_map, List.length_range, m1] at hl hsm
        have zm : M.length ≤ 16777216 := by omega
        have c2 : cutL (L.map Tm.L) (some (((L.length : Int).fdiv 2) * 2)) none = (L.drop (2 * (L.length / 2))).map Tm.L := by
          have := ctT_drop (L.map Tm.L) (2 * (L.length / 2))
          rw [List.map_drop, ← this]
          congr 2
          rw [Int.fdiv_eq_ediv_of_nonneg _ (by decide)]
          omega
        have m2 : IntMulOk ((L.length : Int).fdiv 2) 2 := mulOkR (by decide)
        have zz : M.length + (L.drop (2 * (L.length / 2))).length ≤ sizeLine := szn (by rw [List.length_drop]; omega)
        simp! [zm, c2, m2, zz]
        refine ⟨M ++ L.drop (2 * (L.length / 2)), o, _, _, _, _, _, by rw [List.map_append], rfl, ?_, ?_, ?_, hf⟩
        · intro h0
          have := congrArg List.length h0
          rw [List.length_append, List.length_drop, List.length_nil] at this
          omega
        · intro u hu
          rcases List.mem_append.mp hu with hu | hu
          · exact hmk u hu
          · exact hok u (List.mem_of_mem_drop hu)
        · rw [szT_app, List.length_append, List.length_drop]
          have e : szT L = szT (L.take (2 * (L.length / 2))) + szT (L.drop (2 * (L.length / 2))) := by
            rw [← szT_app, List.take_append_drop]
          omega
    · rintro e S1 ⟨L, o, x1, x3, x4, x5, x6, rfl, rfl, hne, hok, hsz, hf⟩
      exact ⟨trivial, L, o, _, _, _, _, _, _, rfl, rfl, hne, hok, hsz, hf⟩
  intro e S1 hh
  obtain ⟨L, o, x0, x1, x3, x4, x5, x6, rfl, rfl, hne, hok, hsz, hf⟩ := hh
  obtain ⟨t, L, rfl⟩ : ∃ t L', L = t :: L' := by
    cases L with
    | nil => exact absurd rfl hne
    | cons t L => exact ⟨t, L, rfl⟩
  simp!
  rw [tk]
  refine hQ t o ⟨hok t (by simp), ?_⟩ hf
  have := szT_mem (t := t) (L := t :: L) (by simp)
  rw [List.length_cons] at hsz
  omega
end Lw

namespace Lw
open PySem PySem.Spec PyProof.Rows L2 Py
/-! terms drawn -/
theorem term_ok {n i : Nat} {o : Ce} {S : Sto} {Q : W → Sto → Prop} (hn : 8 ≤ n) (ho : S[i]? = some o) (hf : Feed o) (hQ : ∀ (t : Tm) o', TmP 59 t → Feed o' → Q (.d t.L) (S.set i o')) : (FT n i__law_term [.c i] S).sat Q := by
  obtain ⟨n, rfl⟩ : ∃ k, n = k + 1 := ⟨n - 1, by omega⟩
  have hi : i < S.length := (List.getElem?_eq_some_iff.mp ho).1
  have gD : ∀ (o : Ce), (S.set i o)[i]? = some o := fun o => by
    rw [List.getElem?_set, if_pos rfl, if_pos hi]
  have tk : ∀ (o : Ce), (S.set i o).take S.length = S.set i o := fun o => List.take_of_length_le (by simp)
  have m1 : ∀ x : Int, IntMulOk 8 x := fun x => mulOkL (by decide)
  rw [FT__law_term]
  with_reducible refine run_sat (by simp) ?_
  unfold c__law_term
  simp_all!
  refine drawF_ok (m := 4) (by omega) rfl ho hf (by omega) (by omega) fun k o hk hf => ?_
  simp! [m1]
  have hw : (8 * if (k : Int) = 0 then (1 : Int) else 0) = 0 ∨ (8 * if (k : Int) = 0 then (1 : Int) else 0) = 8 := by
    split
    · exact .inr rfl
    · exact .inl rfl
  generalize (8 * if (k : Int) = 0 then (1 : Int) else 0) = wd at hw ⊢
  simp_all!
  refine drawF_ok (m := 8) (by omega) rfl (gD _) hf (by omega) (by omega) fun q o hq hf => ?_
  rw [List.set_set]
  simp!
  with_reducible refine rs_cut (fun e S1 => ∃ o, e = [some (.c i), some (.d (.int wd)), some (.d (.int (q : Nat)))] ∧ S1 = S.set i o ∧ Feed o) ?_ ?_
  · simp!
    refine br_of (fun h1 => ?_) (fun h1 => ?_)
    · simp!
      refine chain_ok (m := 19) (by omega) hw rfl (by omega) (gD _) hf fun t o ht hf => ?_
      rw [List.set_set]
      simp!
      rw [tk]
      exact hQ t o ht hf
    · simp!
      exact ⟨o, rfl, hf⟩
  intro e S1 hh
  obtain ⟨o, hE, hS, hf⟩ := hh
  subst hE hS
  with_reducible refine rs_cut (fun e S1 => ∃ o, e = [some (.c i), some (.d (.int wd)), some (.d (.int (q : Nat)))] ∧ S1 = S.set i o ∧ Feed o) ?_ ?_
  · simp!
    refine br_of (fun h1 => ?_) (fun h1 => ?_)
    · simp!
      refine drawF_ok (m := 8) (by omega) rfl (gD _) hf (by omega) (by omega) fun m o hm hf => ?_
      rw [List.set_set]
      simp!
      refine chain_ok (m := m) (by omega) hw rfl (by omega) (gD _) hf fun t o ht hf => ?_
      rw [List.set_set]
      simp!
      rw [tk]
      exact hQ t o ht hf
    · simp!
      exact ⟨o, rfl, hf⟩
  intro e S1 hh
  obtain ⟨o, hE, hS, hf⟩ := hh
  subst hE hS
  with_reducible refine rs_cut (fun e S1 => ∃ o, e = [some (.c i), some (.d (.int wd)), some (.d (.int (q : Nat)))] ∧ S1 = S.set i o ∧ Feed o) ?_ ?_
  · simp!
    refine br_of (fun h1 => ?_) (fun h1 => ?_)
    · simp!
      refine wide_ok (by omega) hw (gD _) hf fun t o ht hf => ?_
      rw [List.set_set]
      simp!
      rw [tk]
      exact hQ t o ht hf
    · simp!
      exact ⟨o, rfl, hf⟩
  intro e S1 hh
  obtain ⟨o, hE, hS, hf⟩ := hh
  subst hE hS
  simp!
  refine bush_ok (by omega) hw (gD _) hf fun t o ht hf => ?_
  rw [List.set_set]
  simp!
  rw [tk]
  exact hQ t o ht hf
end Lw

namespace Lw
open PySem PySem.Spec PyProof.Rows L2 Py
/-! terms compared -/
def Tm.kids : Tm → List Tm
  | .num _ => []
  | .ltr _ => []
  | .star a => [a]
  | .plus a b => [a, b]
  | .row a b => [a, b]
abbrev prT (u : Tm) : W := .d (.tup [u.R, u.L])
theorem kids_sz (u : Tm) (h1 : u.kind ≠ kN) (h2 : u.kind ≠ kL) : u.R = .tup (.str u.kind :: u.kids.map Tm.R) ∧ u.L = .tup (.str u.kind :: u.kids.map Tm.L) ∧ u.kids.length ≤ 2 ∧ (u.kids.map Tm.size).sum + 1 = u.size := by
  cases u with
  | num q => exact absurd rfl h1
  | ltr c => exact absurd rfl h2
  | star a => exact ⟨by simp [Tm.R, Tm.kind, Tm.kids], by simp [Tm.L, Tm.kind, Tm.kids], by simp [Tm.kids], by simp [Tm.kids, Tm.size]⟩
  | plus a b => exact ⟨by simp [Tm.R, Tm.kind, Tm.kids], by simp [Tm.L, Tm.kind, Tm.kids], by simp [Tm.kids], by simp [Tm.kids, Tm.size]⟩
  | row a b => exact ⟨by simp [Tm.R, Tm.kind, Tm.kids], by simp [Tm.L, Tm.kind, Tm.kids], by simp [Tm.kids], by simp [Tm.kids, Tm.size]⟩
theorem len_szT : ∀ L : List Tm, L.length ≤ szT L
  | [] => by simp [szT]
  | a :: L => by
    have := len_szT L
    have := tm_pos a
    rw [szT_cons, List.length_cons]
    omega
theorem at_kid {k : D} {f : Tm → D} {l : List Tm} {j : Nat} {v : Tm} (h : l[j]? = some v) : atI (W.d k :: (l.map f).map W.d) (1 + (j : Int)) = some (.d (f v)) := by
  rw [show (1 + (j : Int)) = ((j + 1 : Nat) : Int) by omega]
  refine atI_nat ?_
  rw [List.getElem?_cons_succ, List.getElem?_map, List.getElem?_map, h]
  rfl
theorem sameterm_ok {n : Nat} {t : Tm} {S : Sto} {Q : W → Sto → Prop} (hn : 3 ≤ n) (hz : t.size ≤ 1000) (h : Q (.d (.bl true)) S) : (FT n i__law_same_term [.d t.R, .d t.L] S).sat Q := by
  obtain ⟨n, rfl⟩ : ∃ k, n = k + 1 := ⟨n - 1, by omega⟩
  have z1 : (1 : Nat) ≤ sizeLine := by decide
  have z2 : (2 : Nat) ≤ sizeLine := by decide
  rw [FT__law_same_term]
  with_reducible refine run_sat (by simp) ?_
  unfold c__law_same_term
  simp_all! [z1, z2]
  with_reducible refine rs_cut (fun e S1 => ∃ D, S1 = S ++ D) ?_ ?_
  · simp!
    refine while_sat (fun m e S1 => ∃ (L : List Tm) (x0 x1 x3 x4 x5 x6 : Option W), m = szT L ∧ szT L ≤ 1000 ∧ e = [x0, x1, some (.c S.length), x3, x4, x5, x6] ∧ S1 = S ++ [.lst (L.map prT)]) (szT [t]) (by rw [szT_cons]; unfold WF; show t.size + 0 < _; omega) ⟨[t], _, _, _, _, _, _, rfl, by rw [szT_cons]; show t.size + 0 ≤ _; omega, rfl, rfl⟩ ?_
    rintro m e S1 ⟨L, x0, x1, x3, x4, x5, x6, rfl, hz1, rfl, rfl⟩
    have gE : ∀ x : Ce, (S ++ [x])[S.length]? = some x := fun x => by simp
    have sE : ∀ x y : Ce, (S ++ [x]).set S.length y = S ++ [y] := fun x y => by simp
    rcases List.eq_nil_or_concat L with rfl | ⟨L, u, rfl⟩
    · have e3 : ((0 : Int) < ((0 : Nat) : Int)) = False := by simp
      simp! [gE, e3]
      exact ⟨[.lst []], rfl⟩
    rw [List.concat_eq_append] at hz1 ⊢
    have hz2 : szT (L ++ [u]) = szT L + u.size := by
      rw [szT_app, szT_cons]
      rfl
    have hup := tm_pos u
    have hll := len_szT L
    have el : (L ++ [u]).map prT = L.map prT ++ [prT u] := by simp
    have e1 : (L.map prT ++ [prT u])[L.length + 1 - 1]? = some (prT u) := by simp
    have e2 : (L.map prT ++ [prT u]).dropLast = L.map prT := by simp
    have e3 : (0 : Int) < ((L.length + 1 : Nat) : Int) := by omega
    have hl : ∀ w ∈ L.map prT, w.lowB S.length = true := by
      intro w hw
      obtain ⟨u, _, rfl⟩ := List.mem_map.mp hw
      rfl
    simp only [W.lowB] at hl
    simp! [gE, el, e3]
    simp_all! [gE, e1, e2, sE]
    rw [if_pos hl]
    have rk := fun S : Sto => R_kind u (S := S)
    have lk := fun S : Sto => L_kind u (S := S)
    by_cases hN : u.kind = kN
    · obtain ⟨q, rfl⟩ : ∃ q, u = .num q := by
        obtain ⟨e1, e2, e3, e4, e5, e6, e7, e8, e9, e10, e11, e12, e13, e14, e15, e16, e17, e18, e19, e20⟩ := kne
        cases u with
        | num q => exact ⟨q, rfl⟩
        | ltr c => simp only [Tm.kind, e5] at hN
        | star c => simp only [Tm.kind, e9] at hN
        | plus c d => simp only [Tm.kind, e13] at hN
        | row c d => simp only [Tm.kind, e17] at hN
      simp! [prT, Tm.R, Tm.L]
      simp_all!
      simp_all!
      simp_all!
      refine same_ok (by omega) rfl ?_
      simp!
      exact ⟨szT L, by omega, L, _, _, _, _, _, _, rfl, by omega, rfl, rfl⟩
    by_cases hL : u.kind = kL
    · obtain ⟨c, rfl⟩ : ∃ c, u = .ltr c := by
        obtain ⟨e1, e2, e3, e4, e5, e6, e7, e8, e9, e10, e11, e12, e13, e14, e15, e16, e17, e18, e19, e20⟩ := kne
        cases u with
        | num q => exact absurd rfl hN
        | ltr c => exact ⟨c, rfl⟩
        | star c => simp only [Tm.kind, e10] at hL
        | plus c d => simp only [Tm.kind, e14] at hL
        | row c d => simp only [Tm.kind, e18] at hL
      simp! [prT, Tm.R, Tm.L]
      simp_all!
      simp_all!
      simp_all!
      obtain ⟨e1, e2, e3, e4, e5, e6, e7, e8, e9, e10, e11, e12, e13, e14, e15, e16, e17, e18, e19, e20⟩ := kne
      simp! [e5]
      exact ⟨szT L, by omega, L, _, _, _, _, _, _, rfl, by omega, rfl, rfl⟩
    obtain ⟨kr, kl, k2, ks⟩ := kids_sz u hN hL
    simp! [prT, kr, kl]
    simp_all!
    simp_all!
    simp_all!
    have hN' : (u.kind = Str.ofString "number") = False := by rw [eq_iff_iff, iff_false]; exact hN
    have hL' : (u.kind = Str.ofString "letter") = False := by rw [eq_iff_iff, iff_false]; exact hL
    have hsm : smallI ((u.kids.length + 1 : Nat) : Int) = true := smallI_of (by omega) (by omega)
    simp! [hN', hL', hsm]
    refine for_sat (fun j e S1 => ∃ (x0 x1 x3 x6 : Option W), e = [x0, x1, some (.c S.length), x3, some (.d (.tup (.str u.kind :: u.kids.map Tm.R))), some (.d (.tup (.str u.kind :: u.kids.map Tm.L))), x6] ∧ S1 = S ++ [.lst (L.map prT ++ (u.kids.take j).map prT)]) ⟨_, _, _, _, rfl, by simp⟩ ?_ ?_
    · rintro j x e S1 hx ⟨x0, x1, x3, x6, rfl, rfl⟩
      obtain ⟨hj, rfl⟩ : j < u.kids.length ∧ x = W.d (.int (1 + (j : Nat))) := by
        obtain ⟨h1, h2⟩ := rng_get (lo := 1) (f := fun i => 1 + (i : Int)) hx
        exact ⟨by omega, h2⟩
      refine ⟨trivial, _, rfl, ?_⟩
      obtain ⟨v, hv⟩ : ∃ v, u.kids[j]? = some v := ⟨u.kids[j], List.getElem?_eq_getElem hj⟩
      have hlt : (L.map prT ++ (u.kids.take j).map prT).length < sizeLine := by
        have h1000 : (1000 : Nat) < sizeLine := by decide
        rw [List.length_append, List.length_map, List.length_map, List.length_take]
        omega
      simp only [List.length_append, List.length_map] at hlt
      simp! [at_kid hv, z2, gE, sE, hlt]
      refine ⟨_, _, _, _, rfl, ?_⟩
      rw [List.take_succ, hv]
      simp
    · rintro e S1 ⟨x0, x1, x3, x6, rfl, rfl⟩
      have el : (rng 1 ((u.kids.length + 1 : Nat) : Int)).length = u.kids.length := by
        unfold rng
        rw [List.length_map, List.length_range]
        omega
      have e5 : szT (L ++ u.kids) + 1 = szT (L ++ [u]) := by
        rw [hz2, szT_app, ← ks]
        rfl
      refine ⟨trivial, szT (L ++ u.kids), by omega, L ++ u.kids, _, _, _, _, _, _, rfl, by omega, rfl, ?_⟩
      dsimp only
      rw [el, List.take_length, List.map_append]
  intro e S1 hh
  obtain ⟨D, hS⟩ := hh
  subst hS
  simp!
  rw [List.take_left]
  exact h
end Lw

namespace Lw
open PySem PySem.Spec PyProof.Rows L2 Py
/-! k26: the law -/
noncomputable abbrev hdT (t : Tm) : W := .d (.lst [t.L, t.R, .str t.txt])
theorem law_sat (ns : List Int) (hl : ns.length ≤ 63) : (FT 150 i_law [.d (.lsx (ns.map D.int))] []).sat fun w _ => w = .d (.bl true) := by
  have z3 : (3 : Nat) ≤ sizeLine := by decide
  have z0 : (0 : Nat) ≤ sizeLine := by decide
  rw [show (150 : Nat) = 149 + 1 from rfl, FT_law]
  with_reducible refine run_sat (by simp) ?_
  unfold c_law
  simp_all! [z0]
  refine feed_ok (by omega) hl fun o hf => ?_
  simp!
  simp_all! [z0]
  with_reducible refine rs_cut (fun e S1 => ∃ (L : List Tm) (o : Ce) (x0 x1 x3 x4 x5 x6 x7 : Option W), e = [x0, x1, some (.c 1), x3, x4, x5, x6, x7] ∧ S1 = [o, .lst (L.map hdT)] ∧ L.length = 2 ∧ ∀ t ∈ L, TmP 59 t) ?_ ?_
  · simp!
    refine for_sat (fun j e S1 => ∃ (L : List Tm) (o : Ce) (x0 x3 x4 x5 x6 x7 : Option W), e = [x0, some (.c 0), some (.c 1), x3, x4, x5, x6, x7] ∧ S1 = [o, .lst (L.map hdT)] ∧ L.length = j ∧ (∀ t ∈ L, TmP 59 t) ∧ Feed o) ⟨[], o, _, _, _, _, _, _, rfl, rfl, rfl, by simp, hf⟩ ?_ ?_
    · rintro j x e S1 hx ⟨L, o, x0, x3, x4, x5, x6, x7, rfl, rfl, hl, hok, hf⟩
      obtain ⟨hj, rfl⟩ := rng0' (N := 2) rfl hx
      refine ⟨trivial, _, rfl, ?_⟩
      simp_all!
      refine term_ok (by omega) rfl hf fun t o ht hf => ?_
      have hd := dep_lt t
      have ht2 := ht.2
      simp!
      refine tmade_ok (by omega) ht.1 ?_
      simp!
      refine lwrite_ok (by omega) ht.1 (by omega) ?_
      have hlt : L.length < sizeLine := Nat.lt_of_le_of_lt (show L.length ≤ 2 by omega) (by decide)
      simp! [z3, hlt]
      refine ⟨L ++ [t], o, _, _, _, _, _, _, rfl, by simp, by simp [hl], ?_, hf⟩
      intro u hu
      rcases List.mem_append.mp hu with hu | hu
      · exact hok u hu
      · rw [List.mem_singleton.mp hu]; exact ht
    · rintro e S1 ⟨L, o, x0, x3, x4, x5, x6, x7, rfl, rfl, hl, hok, hf⟩
      have hr : (rng 0 2).length = 2 := rng0_len' (N := 2) rfl
      exact ⟨trivial, L, o, _, _, _, _, _, _, _, rfl, rfl, by rw [hl]; exact hr, hok⟩
  intro e S1 hh
  obtain ⟨L, o, x0, x1, x3, x4, x5, x6, x7, hE, hS, hl, hok⟩ := hh
  subst hE hS
  obtain ⟨a, b, rfl⟩ : ∃ a b, L = [a, b] := by
    match L, hl with
    | [a, b], _ => exact ⟨a, b, rfl⟩
  have ha := hok a (by simp)
  have hb := hok b (by simp)
  have da := dep_lt a
  have db := dep_lt b
  have ha2 := ha.2
  have hb2 := hb.2
  with_reducible refine rs_cut (fun e S1 => ∃ (x0 x1 x3 x4 x5 x6 x7 : Option W), e = [x0, x1, some (.d (.lst [.lst [a.L, a.R, .str a.txt], .lst [b.L, b.R, .str b.txt]])), x3, x4, x5, x6, x7]) ?_ ?_
  · simp!
    refine for_sat (fun j e S1 => ∃ (x0 x1 x3 x4 x5 x6 x7 : Option W), e = [x0, x1, some (.d (.lst [.lst [a.L, a.R, .str a.txt], .lst [b.L, b.R, .str b.txt]])), x3, x4, x5, x6, x7]) ⟨_, _, _, _, _, _, _, rfl⟩ ?_ ?_
    · rintro j x e S1 hx ⟨x0, x1, x3, x4, x5, x6, x7, rfl⟩
      obtain ⟨hj, rfl⟩ := rng0' (N := 2) rfl hx
      refine ⟨trivial, _, rfl, ?_⟩
      simp!
      refine for_sat (fun j e S1 => ∃ (x0 x1 x3 x4 x5 x6 x7 : Option W), e = [x0, x1, some (.d (.lst [.lst [a.L, a.R, .str a.txt], .lst [b.L, b.R, .str b.txt]])), x3, x4, x5, x6, x7]) ⟨_, _, _, _, _, _, _, rfl⟩ ?_ ?_
      · rintro j x e S1 hx ⟨x0, x1, x3, x4, x5, x6, x7, rfl⟩
        obtain ⟨t, rfl, ht⟩ : ∃ t : Tm, x = .d (.lst [t.L, t.R, .str t.txt]) ∧ TmP 59 t := by
          have hm := List.mem_of_getElem? hx
          simp only [List.mem_cons, List.not_mem_nil, or_false] at hm
          rcases hm with rfl | rfl
          · exact ⟨a, rfl, ha⟩
          · exact ⟨b, rfl, hb⟩
        have hd := dep_lt t
        have ht2 := ht.2
        refine ⟨trivial, _, rfl, ?_⟩
        simp_all!
        refine write_ok (by omega) ht.1 (by omega) ?_
        simp!
        simp_all!
        refine tmade_ok (by omega) ht.1 ?_
        simp!
        refine write_ok (by omega) ht.1 (by omega) ?_
        simp!
        exact ⟨_, _, _, _, _, _, _, rfl⟩
      · rintro e S1 ⟨x0, x1, x3, x4, x5, x6, x7, rfl⟩
        exact ⟨trivial, _, _, _, _, _, _, _, rfl⟩
    · rintro e S1 ⟨x0, x1, x3, x4, x5, x6, x7, rfl⟩
      exact ⟨trivial, _, _, _, _, _, _, _, rfl⟩
  intro e S1 hh
  obtain ⟨x0, x1, x3, x4, x5, x6, x7, hE⟩ := hh
  subst hE
  simp!
  refine sameterm_ok (by omega) (by omega) ?_
  simp!
  refine sameterm_ok (by omega) (by omega) ?_
  simp!
theorem law_holds : ∀ ns : List Int, ns.length ≤ 63 → (∀ z ∈ ns, PySem.Builtin.Int.intBits z ≤ 1048576) → ∃ S, FT 150 i_law [.d (.lsx (ns.map D.int))] [] = .ok (.d (.bl true)) S := fun ns hl _ => by
  obtain ⟨w, S', e, rfl⟩ := sat_get (law_sat ns hl)
  exact ⟨S', e⟩
end Lw

namespace Lw
open PySem PySem.Spec PyProof.Rows L2 Py
def topS (i : Nat) : Stmt := PySem.Challenge.pw_wordworth_k26_write_sum.main.body.getD i (.Pass ⟨0, 0, 0, 0⟩)
abbrev JJ (G XG : Nat → Option Addr) : Jn := ⟨SG, G, XG, none⟩
abbrev II (G XG : Nat → Option Addr) (K : PySem.W.Frag) : Inf := (JJ G XG).inf K
theorem nd_0 : (SG.fl 0).Nodup := by decide +kernel
theorem ln_0 : (SG.fl 0).length < 1000 := by decide +kernel
abbrev s_shared_part : Stmt := topS 5
abbrev n_shared_part : List Str := [("one" : Str), ("other" : Str)]
theorem sc_shared_part : FnScope n_shared_part [("one" : Str), ("other" : Str)] (defScope s_shared_part) := ⟨rfl, rfl, rfl, by decide +kernel, rfl, by decide +kernel, by decide +kernel⟩
abbrev s_Ratio___init__ : Stmt := inClass (topS 6) 0
abbrev n_Ratio___init__ : List Str := [("self" : Str), ("top" : Str), ("bottom" : Str), ("shared" : Str)]
theorem sc_Ratio___init__ : FnScope n_Ratio___init__ [("self" : Str), ("top" : Str), ("bottom" : Str)] (defScope s_Ratio___init__) := ⟨rfl, rfl, rfl, by decide +kernel, rfl, by decide +kernel, by decide +kernel⟩
abbrev s_Ratio___add__ : Stmt := inClass (topS 6) 1
abbrev n_Ratio___add__ : List Str := [("self" : Str), ("other" : Str)]
theorem sc_Ratio___add__ : FnScope n_Ratio___add__ [("self" : Str), ("other" : Str)] (defScope s_Ratio___add__) := ⟨rfl, rfl, rfl, by decide +kernel, rfl, by decide +kernel, by decide +kernel⟩
abbrev s_Ratio___sub__ : Stmt := inClass (topS 6) 2
abbrev n_Ratio___sub__ : List Str := [("self" : Str), ("other" : Str)]
theorem sc_Ratio___sub__ : FnScope n_Ratio___sub__ [("self" : Str), ("other" : Str)] (defScope s_Ratio___sub__) := ⟨rfl, rfl, rfl, by decide +kernel, rfl, by decide +kernel, by decide +kernel⟩
abbrev s_Ratio___mul__ : Stmt := inClass (topS 6) 3
abbrev n_Ratio___mul__ : List Str := [("self" : Str), ("other" : Str)]
theorem sc_Ratio___mul__ : FnScope n_Ratio___mul__ [("self" : Str), ("other" : Str)] (defScope s_Ratio___mul__) := ⟨rfl, rfl, rfl, by decide +kernel, rfl, by decide +kernel, by decide +kernel⟩
abbrev s_Ratio___neg__ : Stmt := inClass (topS 6) 4
abbrev n_Ratio___neg__ : List Str := [("self" : Str)]
theorem sc_Ratio___neg__ : FnScope n_Ratio___neg__ [("self" : Str)] (defScope s_Ratio___neg__) := ⟨rfl, rfl, rfl, by decide +kernel, rfl, by decide +kernel, by decide +kernel⟩
abbrev s_Ratio___eq__ : Stmt := inClass (topS 6) 5
abbrev n_Ratio___eq__ : List Str := [("self" : Str), ("other" : Str)]
theorem sc_Ratio___eq__ : FnScope n_Ratio___eq__ [("self" : Str), ("other" : Str)] (defScope s_Ratio___eq__) := ⟨rfl, rfl, rfl, by decide +kernel, rfl, by decide +kernel, by decide +kernel⟩
abbrev s_Ratio___bool__ : Stmt := inClass (topS 6) 6
abbrev n_Ratio___bool__ : List Str := [("self" : Str)]
theorem sc_Ratio___bool__ : FnScope n_Ratio___bool__ [("self" : Str)] (defScope s_Ratio___bool__) := ⟨rfl, rfl, rfl, by decide +kernel, rfl, by decide +kernel, by decide +kernel⟩
abbrev s_Ratio_text : Stmt := inClass (topS 6) 10
abbrev n_Ratio_text : List Str := [("self" : Str)]
theorem sc_Ratio_text : FnScope n_Ratio_text [("self" : Str)] (defScope s_Ratio_text) := ⟨rfl, rfl, rfl, by decide +kernel, rfl, by decide +kernel, by decide +kernel⟩
abbrev s_write_part : Stmt := topS 9
abbrev n_write_part : List Str := [("term" : Str), ("least" : Str), ("text" : Str)]
theorem sc_write_part : FnScope n_write_part [("term" : Str), ("least" : Str)] (defScope s_write_part) := ⟨rfl, rfl, rfl, by decide +kernel, rfl, by decide +kernel, by decide +kernel⟩
abbrev s_write_sum : Stmt := topS 10
abbrev n_write_sum : List Str := [("term" : Str)]
theorem sc_write_sum : FnScope n_write_sum [("term" : Str)] (defScope s_write_sum) := ⟨rfl, rfl, rfl, by decide +kernel, rfl, by decide +kernel, by decide +kernel⟩
abbrev s__law_feed : Stmt := topS 12
abbrev n__law_feed : List Str := [("script" : Str), ("cell" : Str)]
theorem sc__law_feed : FnScope n__law_feed [("script" : Str)] (defScope s__law_feed) := ⟨rfl, rfl, rfl, by decide +kernel, rfl, by decide +kernel, by decide +kernel⟩
abbrev s__law_draw : Stmt := topS 13
abbrev n__law_draw : List Str := [("feed" : Str), ("limit" : Str), ("cells" : Str), ("cell" : Str), ("found" : Str)]
theorem sc__law_draw : FnScope n__law_draw [("feed" : Str), ("limit" : Str)] (defScope s__law_draw) := ⟨rfl, rfl, rfl, by decide +kernel, rfl, by decide +kernel, by decide +kernel⟩
abbrev s__law_great : Stmt := topS 14
abbrev n__law_great : List Str := [("feed" : Str), ("parts" : Str), ("found" : Str), ("k" : Str)]
theorem sc__law_great : FnScope n__law_great [("feed" : Str), ("parts" : Str)] (defScope s__law_great) := ⟨rfl, rfl, rfl, by decide +kernel, rfl, by decide +kernel, by decide +kernel⟩
abbrev s__law_pair : Stmt := topS 15
abbrev n__law_pair : List Str := [("above" : Str), ("below" : Str), ("one" : Str), ("two" : Str)]
theorem sc__law_pair : FnScope n__law_pair [("above" : Str), ("below" : Str)] (defScope s__law_pair) := ⟨rfl, rfl, rfl, by decide +kernel, rfl, by decide +kernel, by decide +kernel⟩
abbrev s__law_is_integer : Stmt := topS 16
abbrev n__law_is_integer : List Str := [("actual" : Str)]
theorem sc__law_is_integer : FnScope n__law_is_integer [("actual" : Str)] (defScope s__law_is_integer) := ⟨rfl, rfl, rfl, by decide +kernel, rfl, by decide +kernel, by decide +kernel⟩
abbrev s__law_same : Stmt := topS 17
abbrev n__law_same : List Str := [("actual" : Str), ("due" : Str)]
theorem sc__law_same : FnScope n__law_same [("actual" : Str), ("due" : Str)] (defScope s__law_same) := ⟨rfl, rfl, rfl, by decide +kernel, rfl, by decide +kernel, by decide +kernel⟩
abbrev s__law_leaf : Stmt := topS 18
abbrev n__law_leaf : List Str := [("feed" : Str), ("wide" : Str), ("kind" : Str), ("above" : Str)]
theorem sc__law_leaf : FnScope n__law_leaf [("feed" : Str), ("wide" : Str)] (defScope s__law_leaf) := ⟨rfl, rfl, rfl, by decide +kernel, rfl, by decide +kernel, by decide +kernel⟩
abbrev s__law_joined : Stmt := topS 19
abbrev n__law_joined : List Str := [("feed" : Str), ("one" : Str), ("two" : Str)]
theorem sc__law_joined : FnScope n__law_joined [("feed" : Str), ("one" : Str), ("two" : Str)] (defScope s__law_joined) := ⟨rfl, rfl, rfl, by decide +kernel, rfl, by decide +kernel, by decide +kernel⟩
abbrev s__law_bush : Stmt := topS 20
abbrev n__law_bush : List Str := [("feed" : Str), ("wide" : Str), ("items" : Str), ("turn" : Str), ("at" : Str), ("k" : Str)]
theorem sc__law_bush : FnScope n__law_bush [("feed" : Str), ("wide" : Str)] (defScope s__law_bush) := ⟨rfl, rfl, rfl, by decide +kernel, rfl, by decide +kernel, by decide +kernel⟩
abbrev s__law_chain : Stmt := topS 21
abbrev n__law_chain : List Str := [("feed" : Str), ("wide" : Str), ("many" : Str), ("found" : Str), ("turn" : Str), ("kind" : Str)]
theorem sc__law_chain : FnScope n__law_chain [("feed" : Str), ("wide" : Str), ("many" : Str)] (defScope s__law_chain) := ⟨rfl, rfl, rfl, by decide +kernel, rfl, by decide +kernel, by decide +kernel⟩
abbrev s__law_wide_term : Stmt := topS 22
abbrev n__law_wide_term : List Str := [("feed" : Str), ("wide" : Str), ("items" : Str), ("turn" : Str), ("pairs" : Str), ("k" : Str), ("pair" : Str)]
theorem sc__law_wide_term : FnScope n__law_wide_term [("feed" : Str), ("wide" : Str)] (defScope s__law_wide_term) := ⟨rfl, rfl, rfl, by decide +kernel, rfl, by decide +kernel, by decide +kernel⟩
abbrev s__law_term : Stmt := topS 23
abbrev n__law_term : List Str := [("feed" : Str), ("wide" : Str), ("kind" : Str)]
theorem sc__law_term : FnScope n__law_term [("feed" : Str)] (defScope s__law_term) := ⟨rfl, rfl, rfl, by decide +kernel, rfl, by decide +kernel, by decide +kernel⟩
abbrev s__law_made : Stmt := topS 24
abbrev n__law_made : List Str := [("term" : Str)]
theorem sc__law_made : FnScope n__law_made [("term" : Str)] (defScope s__law_made) := ⟨rfl, rfl, rfl, by decide +kernel, rfl, by decide +kernel, by decide +kernel⟩
abbrev s__law_text : Stmt := topS 25
abbrev n__law_text : List Str := [("one" : Str)]
theorem sc__law_text : FnScope n__law_text [("one" : Str)] (defScope s__law_text) := ⟨rfl, rfl, rfl, by decide +kernel, rfl, by decide +kernel, by decide +kernel⟩
abbrev s__law_part : Stmt := topS 26
abbrev n__law_part : List Str := [("term" : Str), ("barred" : Str)]
theorem sc__law_part : FnScope n__law_part [("term" : Str), ("barred" : Str)] (defScope s__law_part) := ⟨rfl, rfl, rfl, by decide +kernel, rfl, by decide +kernel, by decide +kernel⟩
abbrev s__law_write : Stmt := topS 27
abbrev n__law_write : List Str := [("term" : Str)]
theorem sc__law_write : FnScope n__law_write [("term" : Str)] (defScope s__law_write) := ⟨rfl, rfl, rfl, by decide +kernel, rfl, by decide +kernel, by decide +kernel⟩
abbrev s__law_same_term : Stmt := topS 28
abbrev n__law_same_term : List Str := [("actual" : Str), ("due" : Str), ("waiting" : Str), ("pair" : Str), ("one" : Str), ("two" : Str), ("k" : Str)]
theorem sc__law_same_term : FnScope n__law_same_term [("actual" : Str), ("due" : Str)] (defScope s__law_same_term) := ⟨rfl, rfl, rfl, by decide +kernel, rfl, by decide +kernel, by decide +kernel⟩
abbrev s_law : Stmt := topS 29
abbrev n_law : List Str := [("script" : Str), ("feed" : Str), ("held" : Str), ("k" : Str), ("term" : Str), ("turn" : Str), ("one" : Str), ("said" : Str)]
theorem sc_law : FnScope n_law [("script" : Str)] (defScope s_law) := ⟨rfl, rfl, rfl, by decide +kernel, rfl, by decide +kernel, by decide +kernel⟩
section
variable {P : Program} {w : World} {K : PySem.W.Frag} {mg : Str → Option Value} {base : Heap} {G XG : Nat → Option Addr} {F F1 Fi : FnTab} {k : Nat} {fa : Addr} {fd : FuncData}
theorem ok_shared_part (hF : Fun K "shared_part" "shared_part" s_shared_part fa fd) (T : Tb (JJ G XG) P w K mg base F Fi k) (he : ∀ ws S, F1 i_shared_part ws S = runDef 2 2 (c_shared_part F Fi) ws S) : FnOk P w K mg base (L2.CX P w) (k + 2) fa fd [("one" : Str), ("other" : Str)] (spOf (II G XG K) F1 i_shared_part 2) :=
  def_ok hF sc_shared_part rfl he fun cdv A outer s H E hr => (fun (c : Cok (JJ G XG) (cxOf (L2.CX P w) P w K mg base n_shared_part "shared_part" (defScope s_shared_part) fa cdv A outer s H E) (fun cls dd _ H' => E cls dd H') F Fi k) =>
    (ss_cons (ss_while c (st_cmp (o_neG (I := II G XG K) (units64 c.room)) (sx_var (pv 1)) sx_int) (ss_one (ss_par c.calm c.nd (by decide) (sx_var (pv 1)) (sx_op (o_mod (I := II G XG K)) (sx_var (pv 0)) (sx_var (pv 1)))))) (ss_one (ss_ret (sx_var (pv 0)))))) (cok_of T sc_shared_part hr)
theorem ok_Ratio___init__ (hF : FunD K "__init__" "Ratio.__init__" (defArgs s_Ratio___init__) (defBody s_Ratio___init__) (defScope s_Ratio___init__) [V.int 1] [] fa fd) (T : Tb (JJ G XG) P w K mg base F Fi k) (he : ∀ ws S, F1 i_Ratio___init__ ws S = runDef 4 3 (c_Ratio___init__ F Fi) ws S) : FnOk P w K mg base (L2.CX P w) (k + 2) fa fd [("self" : Str), ("top" : Str), ("bottom" : Str)] (spOf (II G XG K) F1 i_Ratio___init__ 3) :=
  def_okD hF sc_Ratio___init__ rfl he fun cdv A outer s H E hr => (fun (c : Cok (JJ G XG) (cxOf (L2.CX P w) P w K mg base n_Ratio___init__ "Ratio.__init__" (defScope s_Ratio___init__) fa cdv A outer s H E) (fun cls dd _ H' => E cls dd H') F Fi k) =>
    (ss_cons (ss_if (st_cmp (o_ownEq c (f := i_Ratio___eq__) (c := 0) rfl (o_eqG (I := II G XG K) (units64 c.room))) (sx_var (pv 2)) sx_int) (ss_one ss_never) ss_nil) (ss_cons (ss_if (st_cmp (o_lt (I := II G XG K)) (sx_var (pv 2)) sx_int) (ss_one (ss_par c.calm c.nd (by decide) (sx_un (u_own c (f := i_Ratio___neg__) (c := 0) rfl (u_neg (I := II G XG K))) (sx_var (pv 1))) (sx_un (u_own c (f := i_Ratio___neg__) (c := 0) rfl (u_neg (I := II G XG K))) (sx_var (pv 2))))) ss_nil) (ss_cons (ss_set c.nd (sx_call c (f := i_shared_part) rfl (sa_cons (sx_fn (c_abs (I := II G XG K)) c rfl bt_abs (sa_cons (sx_var (pv 1)) sa_nil)) (sa_cons (sx_var (pv 2)) sa_nil)))) (ss_cons (ss_fld c (c := 0) (i := 0) rfl nd_0 ln_0 (sx_var (pv 0)) (sx_op (o_div c (I := II G XG K)) (sx_var (pv 1)) (sx_var (pv 3)))) (ss_one (ss_fld c (c := 0) (i := 1) rfl nd_0 ln_0 (sx_var (pv 0)) (sx_op (o_div c (I := II G XG K)) (sx_var (pv 2)) (sx_var (pv 3)))))))))) (cok_of T sc_Ratio___init__ hr)
theorem ok_Ratio___add__ (hF : Fun K "__add__" "Ratio.__add__" s_Ratio___add__ fa fd) (T : Tb (JJ G XG) P w K mg base F Fi k) (he : ∀ ws S, F1 i_Ratio___add__ ws S = runDef 2 2 (c_Ratio___add__ F Fi) ws S) : FnOk P w K mg base (L2.CX P w) (k + 2) fa fd [("self" : Str), ("other" : Str)] (spOf (II G XG K) F1 i_Ratio___add__ 2) :=
  def_ok hF sc_Ratio___add__ rfl he fun cdv A outer s H E hr => (fun (c : Cok (JJ G XG) (cxOf (L2.CX P w) P w K mg base n_Ratio___add__ "Ratio.__add__" (defScope s_Ratio___add__) fa cdv A outer s H E) (fun cls dd _ H' => E cls dd H') F Fi k) =>
    (ss_one (ss_ret (sx_mkF c (x := "Ratio") (dfl := []) (dvs := []) rfl (by decide +kernel) (fun _ => .nil) rfl (sa_cons (sx_op (o_own c (f := i_Ratio___add__) (c := 0) rfl rfl (o_add (I := II G XG K))) (sx_op (o_own c (f := i_Ratio___mul__) (c := 0) rfl rfl (o_mul (I := II G XG K))) (sx_attr c (c := 0) (i := 0) rfl nd_0 (sx_var (pv 0))) (sx_attr c (c := 0) (i := 1) rfl nd_0 (sx_var (pv 1)))) (sx_op (o_own c (f := i_Ratio___mul__) (c := 0) rfl rfl (o_mul (I := II G XG K))) (sx_attr c (c := 0) (i := 0) rfl nd_0 (sx_var (pv 1))) (sx_attr c (c := 0) (i := 1) rfl nd_0 (sx_var (pv 0))))) (sa_cons (sx_op (o_own c (f := i_Ratio___mul__) (c := 0) rfl rfl (o_mul (I := II G XG K))) (sx_attr c (c := 0) (i := 1) rfl nd_0 (sx_var (pv 0))) (sx_attr c (c := 0) (i := 1) rfl nd_0 (sx_var (pv 1)))) sa_nil)))))) (cok_of T sc_Ratio___add__ hr)
theorem ok_Ratio___sub__ (hF : Fun K "__sub__" "Ratio.__sub__" s_Ratio___sub__ fa fd) (T : Tb (JJ G XG) P w K mg base F Fi k) (he : ∀ ws S, F1 i_Ratio___sub__ ws S = runDef 2 2 (c_Ratio___sub__ F Fi) ws S) : FnOk P w K mg base (L2.CX P w) (k + 2) fa fd [("self" : Str), ("other" : Str)] (spOf (II G XG K) F1 i_Ratio___sub__ 2) :=
  def_ok hF sc_Ratio___sub__ rfl he fun cdv A outer s H E hr => (fun (c : Cok (JJ G XG) (cxOf (L2.CX P w) P w K mg base n_Ratio___sub__ "Ratio.__sub__" (defScope s_Ratio___sub__) fa cdv A outer s H E) (fun cls dd _ H' => E cls dd H') F Fi k) =>
    (ss_one (ss_ret (sx_mkF c (x := "Ratio") (dfl := []) (dvs := []) rfl (by decide +kernel) (fun _ => .nil) rfl (sa_cons (sx_op (o_own c (f := i_Ratio___sub__) (c := 0) rfl rfl (o_sub (I := II G XG K))) (sx_op (o_own c (f := i_Ratio___mul__) (c := 0) rfl rfl (o_mul (I := II G XG K))) (sx_attr c (c := 0) (i := 0) rfl nd_0 (sx_var (pv 0))) (sx_attr c (c := 0) (i := 1) rfl nd_0 (sx_var (pv 1)))) (sx_op (o_own c (f := i_Ratio___mul__) (c := 0) rfl rfl (o_mul (I := II G XG K))) (sx_attr c (c := 0) (i := 0) rfl nd_0 (sx_var (pv 1))) (sx_attr c (c := 0) (i := 1) rfl nd_0 (sx_var (pv 0))))) (sa_cons (sx_op (o_own c (f := i_Ratio___mul__) (c := 0) rfl rfl (o_mul (I := II G XG K))) (sx_attr c (c := 0) (i := 1) rfl nd_0 (sx_var (pv 0))) (sx_attr c (c := 0) (i := 1) rfl nd_0 (sx_var (pv 1)))) sa_nil)))))) (cok_of T sc_Ratio___sub__ hr)
theorem ok_Ratio___mul__ (hF : Fun K "__mul__" "Ratio.__mul__" s_Ratio___mul__ fa fd) (T : Tb (JJ G XG) P w K mg base F Fi k) (he : ∀ ws S, F1 i_Ratio___mul__ ws S = runDef 2 2 (c_Ratio___mul__ F Fi) ws S) : FnOk P w K mg base (L2.CX P w) (k + 2) fa fd [("self" : Str), ("other" : Str)] (spOf (II G XG K) F1 i_Ratio___mul__ 2) :=
  def_ok hF sc_Ratio___mul__ rfl he fun cdv A outer s H E hr => (fun (c : Cok (JJ G XG) (cxOf (L2.CX P w) P w K mg base n_Ratio___mul__ "Ratio.__mul__" (defScope s_Ratio___mul__) fa cdv A outer s H E) (fun cls dd _ H' => E cls dd H') F Fi k) =>
    (ss_one (ss_ret (sx_mkF c (x := "Ratio") (dfl := []) (dvs := []) rfl (by decide +kernel) (fun _ => .nil) rfl (sa_cons (sx_op (o_own c (f := i_Ratio___mul__) (c := 0) rfl rfl (o_mul (I := II G XG K))) (sx_attr c (c := 0) (i := 0) rfl nd_0 (sx_var (pv 0))) (sx_attr c (c := 0) (i := 0) rfl nd_0 (sx_var (pv 1)))) (sa_cons (sx_op (o_own c (f := i_Ratio___mul__) (c := 0) rfl rfl (o_mul (I := II G XG K))) (sx_attr c (c := 0) (i := 1) rfl nd_0 (sx_var (pv 0))) (sx_attr c (c := 0) (i := 1) rfl nd_0 (sx_var (pv 1)))) sa_nil)))))) (cok_of T sc_Ratio___mul__ hr)
theorem ok_Ratio___neg__ (hF : Fun K "__neg__" "Ratio.__neg__" s_Ratio___neg__ fa fd) (T : Tb (JJ G XG) P w K mg base F Fi k) (he : ∀ ws S, F1 i_Ratio___neg__ ws S = runDef 1 1 (c_Ratio___neg__ F Fi) ws S) : FnOk P w K mg base (L2.CX P w) (k + 2) fa fd [("self" : Str)] (spOf (II G XG K) F1 i_Ratio___neg__ 1) :=
  def_ok hF sc_Ratio___neg__ rfl he fun cdv A outer s H E hr => (fun (c : Cok (JJ G XG) (cxOf (L2.CX P w) P w K mg base n_Ratio___neg__ "Ratio.__neg__" (defScope s_Ratio___neg__) fa cdv A outer s H E) (fun cls dd _ H' => E cls dd H') F Fi k) =>
    (ss_one (ss_ret (sx_mkF c (x := "Ratio") (dfl := []) (dvs := []) rfl (by decide +kernel) (fun _ => .nil) rfl (sa_cons (sx_un (u_own c (f := i_Ratio___neg__) (c := 0) rfl (u_neg (I := II G XG K))) (sx_attr c (c := 0) (i := 0) rfl nd_0 (sx_var (pv 0)))) (sa_cons (sx_attr c (c := 0) (i := 1) rfl nd_0 (sx_var (pv 0))) sa_nil)))))) (cok_of T sc_Ratio___neg__ hr)
theorem ok_Ratio___eq__ (hF : Fun K "__eq__" "Ratio.__eq__" s_Ratio___eq__ fa fd) (T : Tb (JJ G XG) P w K mg base F Fi k) (he : ∀ ws S, F1 i_Ratio___eq__ ws S = runDef 2 2 (c_Ratio___eq__ F Fi) ws S) : FnOk P w K mg base (L2.CX P w) (k + 2) fa fd [("self" : Str), ("other" : Str)] (spOf (II G XG K) F1 i_Ratio___eq__ 2) :=
  def_ok hF sc_Ratio___eq__ rfl he fun cdv A outer s H E hr => (fun (c : Cok (JJ G XG) (cxOf (L2.CX P w) P w K mg base n_Ratio___eq__ "Ratio.__eq__" (defScope s_Ratio___eq__) fa cdv A outer s H E) (fun cls dd _ H' => E cls dd H') F Fi k) =>
    (ss_one (ss_ret (sx_and (sx_isC c rfl rfl (sx_var (pv 1))) (sx_and (sx_cmp (o_ownEq c (f := i_Ratio___eq__) (c := 0) rfl (o_eqG (I := II G XG K) (units64 c.room))) (sx_attr c (c := 0) (i := 0) rfl nd_0 (sx_var (pv 0))) (sx_attr c (c := 0) (i := 0) rfl nd_0 (sx_var (pv 1)))) (sx_one (sx_cmp (o_ownEq c (f := i_Ratio___eq__) (c := 0) rfl (o_eqG (I := II G XG K) (units64 c.room))) (sx_attr c (c := 0) (i := 1) rfl nd_0 (sx_var (pv 0))) (sx_attr c (c := 0) (i := 1) rfl nd_0 (sx_var (pv 1)))))))))) (cok_of T sc_Ratio___eq__ hr)
theorem ok_Ratio___bool__ (hF : Fun K "__bool__" "Ratio.__bool__" s_Ratio___bool__ fa fd) (T : Tb (JJ G XG) P w K mg base F Fi k) (he : ∀ ws S, F1 i_Ratio___bool__ ws S = runDef 1 1 (c_Ratio___bool__ F Fi) ws S) : FnOk P w K mg base (L2.CX P w) (k + 2) fa fd [("self" : Str)] (spOf (II G XG K) F1 i_Ratio___bool__ 1) :=
  def_ok hF sc_Ratio___bool__ rfl he fun cdv A outer s H E hr => (fun (c : Cok (JJ G XG) (cxOf (L2.CX P w) P w K mg base n_Ratio___bool__ "Ratio.__bool__" (defScope s_Ratio___bool__) fa cdv A outer s H E) (fun cls dd _ H' => E cls dd H') F Fi k) =>
    (ss_one (ss_ret (sx_cmp (o_neG (I := II G XG K) (units64 c.room)) (sx_attr c (c := 0) (i := 0) rfl nd_0 (sx_var (pv 0))) sx_int)))) (cok_of T sc_Ratio___bool__ hr)
theorem ok_Ratio_text (hF : Fun K "text" "Ratio.text" s_Ratio_text fa fd) (T : Tb (JJ G XG) P w K mg base F Fi k) (he : ∀ ws S, F1 i_Ratio_text ws S = runDef 1 1 (c_Ratio_text F Fi) ws S) : FnOk P w K mg base (L2.CX P w) (k + 2) fa fd [("self" : Str)] (spOf (II G XG K) F1 i_Ratio_text 1) :=
  def_ok hF sc_Ratio_text rfl he fun cdv A outer s H E hr => (fun (c : Cok (JJ G XG) (cxOf (L2.CX P w) P w K mg base n_Ratio_text "Ratio.text" (defScope s_Ratio_text) fa cdv A outer s H E) (fun cls dd _ H' => E cls dd H') F Fi k) =>
    (ss_cons (ss_if (st_cmp (o_ownEq c (f := i_Ratio___eq__) (c := 0) rfl (o_eqG (I := II G XG K) (units64 c.room))) (sx_attr c (c := 0) (i := 1) rfl nd_0 (sx_var (pv 0))) sx_int) (ss_one (ss_ret (sx_ty (c_str (I := II G XG K)) c rfl bt_str (sa_cons (sx_attr c (c := 0) (i := 0) rfl nd_0 (sx_var (pv 0))) sa_nil)))) ss_nil) (ss_one (ss_ret (sx_op (o_own c (f := i_Ratio___add__) (c := 0) rfl rfl (o_add (I := II G XG K))) (sx_op (o_own c (f := i_Ratio___add__) (c := 0) rfl rfl (o_add (I := II G XG K))) (sx_ty (c_str (I := II G XG K)) c rfl bt_str (sa_cons (sx_attr c (c := 0) (i := 0) rfl nd_0 (sx_var (pv 0))) sa_nil)) sx_str) (sx_ty (c_str (I := II G XG K)) c rfl bt_str (sa_cons (sx_attr c (c := 0) (i := 1) rfl nd_0 (sx_var (pv 0))) sa_nil))))))) (cok_of T sc_Ratio_text hr)
theorem ok_write_part (hF : Fun K "write_part" "write_part" s_write_part fa fd) (T : Tb (JJ G XG) P w K mg base F Fi k) (he : ∀ ws S, F1 i_write_part ws S = runDef 3 2 (c_write_part F Fi) ws S) : FnOk P w K mg base (L2.CX P w) (k + 2) fa fd [("term" : Str), ("least" : Str)] (spOf (II G XG K) F1 i_write_part 2) :=
  def_ok hF sc_write_part rfl he fun cdv A outer s H E hr => (fun (c : Cok (JJ G XG) (cxOf (L2.CX P w) P w K mg base n_write_part "write_part" (defScope s_write_part) fa cdv A outer s H E) (fun cls dd _ H' => E cls dd H') F Fi k) =>
    (ss_cons (ss_set c.nd (sx_call c (f := i_write_sum) rfl (sa_cons (sx_var (pv 0)) sa_nil))) (ss_cons (ss_if (st_cmp (o_lt (I := II G XG K)) (sx_tbl c (kv := [(("plus" : Str), 0), (("row" : Str), 1), (("star" : Str), 2), (("number" : Str), 3), (("letter" : Str), 3)]) rfl (sx_ix (I := II G XG K) (sx_var (pv 0)) sx_int)) (sx_var (pv 1))) (ss_one (ss_ret (sx_op (o_own c (f := i_Ratio___add__) (c := 0) rfl rfl (o_add (I := II G XG K))) (sx_op (o_own c (f := i_Ratio___add__) (c := 0) rfl rfl (o_add (I := II G XG K))) sx_str (sx_var (pv 2))) sx_str))) ss_nil) (ss_one (ss_ret (sx_var (pv 2))))))) (cok_of T sc_write_part hr)
theorem ok_write_sum (hF : Fun K "write_sum" "write_sum" s_write_sum fa fd) (T : Tb (JJ G XG) P w K mg base F Fi k) (he : ∀ ws S, F1 i_write_sum ws S = runDef 1 1 (c_write_sum F Fi) ws S) : FnOk P w K mg base (L2.CX P w) (k + 2) fa fd [("term" : Str)] (spOf (II G XG K) F1 i_write_sum 1) :=
  def_ok hF sc_write_sum rfl he fun cdv A outer s H E hr => (fun (c : Cok (JJ G XG) (cxOf (L2.CX P w) P w K mg base n_write_sum "write_sum" (defScope s_write_sum) fa cdv A outer s H E) (fun cls dd _ H' => E cls dd H') F Fi k) =>
    (ss_cons (ss_if (st_cmp (o_ownEq c (f := i_Ratio___eq__) (c := 0) rfl (o_eqG (I := II G XG K) (units64 c.room))) (sx_ix (I := II G XG K) (sx_var (pv 0)) sx_int) sx_str) (ss_one (ss_ret (sx_meth0 c (f := i_Ratio_text) (c := 0) rfl (by decide +kernel : ("text" : Str) ∉ SG.fl 0) (sx_ix (I := II G XG K) (sx_var (pv 0)) sx_int)))) ss_nil) (ss_cons (ss_if (st_cmp (o_ownEq c (f := i_Ratio___eq__) (c := 0) rfl (o_eqG (I := II G XG K) (units64 c.room))) (sx_ix (I := II G XG K) (sx_var (pv 0)) sx_int) sx_str) (ss_one (ss_ret (sx_ix (I := II G XG K) (sx_var (pv 0)) sx_int))) ss_nil) (ss_cons (ss_if (st_cmp (o_ownEq c (f := i_Ratio___eq__) (c := 0) rfl (o_eqG (I := II G XG K) (units64 c.room))) (sx_ix (I := II G XG K) (sx_var (pv 0)) sx_int) sx_str) (ss_one (ss_ret (sx_op (o_own c (f := i_Ratio___add__) (c := 0) rfl rfl (o_add (I := II G XG K))) (sx_op (o_own c (f := i_Ratio___add__) (c := 0) rfl rfl (o_add (I := II G XG K))) (sx_call c (f := i_write_part) rfl (sa_cons (sx_ix (I := II G XG K) (sx_var (pv 0)) sx_int) (sa_cons sx_int sa_nil))) sx_str) (sx_call c (f := i_write_part) rfl (sa_cons (sx_ix (I := II G XG K) (sx_var (pv 0)) sx_int) (sa_cons sx_int sa_nil)))))) ss_nil) (ss_cons (ss_if (st_cmp (o_ownEq c (f := i_Ratio___eq__) (c := 0) rfl (o_eqG (I := II G XG K) (units64 c.room))) (sx_ix (I := II G XG K) (sx_var (pv 0)) sx_int) sx_str) (ss_one (ss_ret (sx_op (o_own c (f := i_Ratio___add__) (c := 0) rfl rfl (o_add (I := II G XG K))) (sx_op (o_own c (f := i_Ratio___add__) (c := 0) rfl rfl (o_add (I := II G XG K))) (sx_call c (f := i_write_part) rfl (sa_cons (sx_ix (I := II G XG K) (sx_var (pv 0)) sx_int) (sa_cons sx_int sa_nil))) sx_str) (sx_call c (f := i_write_part) rfl (sa_cons (sx_ix (I := II G XG K) (sx_var (pv 0)) sx_int) (sa_cons sx_int sa_nil)))))) ss_nil) (ss_one (ss_ret (sx_op (o_own c (f := i_Ratio___add__) (c := 0) rfl rfl (o_add (I := II G XG K))) (sx_call c (f := i_write_part) rfl (sa_cons (sx_ix (I := II G XG K) (sx_var (pv 0)) sx_int) (sa_cons sx_int sa_nil))) sx_str)))))))) (cok_of T sc_write_sum hr)
theorem ok__law_feed (hF : Fun K "_law_feed" "_law_feed" s__law_feed fa fd) (T : Tb (JJ G XG) P w K mg base F Fi k) (he : ∀ ws S, F1 i__law_feed ws S = runDef 2 1 (c__law_feed F Fi) ws S) : FnOk P w K mg base (L2.CX P w) (k + 2) fa fd [("script" : Str)] (spOf (II G XG K) F1 i__law_feed 1) :=
  def_ok hF sc__law_feed rfl he fun cdv A outer s H E hr => (fun (c : Cok (JJ G XG) (cxOf (L2.CX P w) P w K mg base n__law_feed "_law_feed" (defScope s__law_feed) fa cdv A outer s H E) (fun cls dd _ H' => E cls dd H') F Fi k) =>
    (ss_one (ss_ret (sx_lstC (sa_cons (sx_comp c (own := [("cell", 1)]) (si_any (I := II G XG K) (sx_sl (I := II G XG K) (sx_var (pv 0)) so_none (so_some sx_int))) (by decide) (blkOk_by (N := n__law_feed) (sc := defScope s__law_feed) (by decide +kernel)) (fun _ _ _ _ _ => (sg_nm (c.blk _ _ _ _ _).nd)) (fun _ _ _ _ _ => sts_nil) (fun _ _ _ _ _ => (sx_fn (c_abs (I := II G XG K)) (c.blk _ _ _ _ _) rfl bt_abs (sa_cons (sx_var (pv 1)) sa_nil)))) (sa_cons sx_int (sa_cons sx_int (sa_cons (sx_op (o_own c (f := i_Ratio___add__) (c := 0) rfl rfl (o_add (I := II G XG K))) sx_int (sx_fn (c_len (I := II G XG K)) c rfl bt_len (sa_cons (sx_var (pv 0)) sa_nil))) sa_nil)))))))) (cok_of T sc__law_feed hr)
theorem ok__law_draw (hF : Fun K "_law_draw" "_law_draw" s__law_draw fa fd) (T : Tb (JJ G XG) P w K mg base F Fi k) (he : ∀ ws S, F1 i__law_draw ws S = runDef 5 2 (c__law_draw F Fi) ws S) : FnOk P w K mg base (L2.CX P w) (k + 2) fa fd [("feed" : Str), ("limit" : Str)] (spOf (II G XG K) F1 i__law_draw 2) :=
  def_ok hF sc__law_draw rfl he fun cdv A outer s H E hr => (fun (c : Cok (JJ G XG) (cxOf (L2.CX P w) P w K mg base n__law_draw "_law_draw" (defScope s__law_draw) fa cdv A outer s H E) (fun cls dd _ H' => E cls dd H') F Fi k) =>
    (ss_cons (ss_set c.nd (sx_ix (I := II G XG K) (sx_var (pv 0)) sx_int)) (ss_cons (ss_if (st_and (st_cmp (o_ownEq c (f := i_Ratio___eq__) (c := 0) rfl (o_eqG (I := II G XG K) (units64 c.room))) (sx_ix (I := II G XG K) (sx_var (pv 0)) sx_int) sx_int) (st_and1 (st_cmp (o_lt (I := II G XG K)) (sx_ix (I := II G XG K) (sx_var (pv 0)) sx_int) (sx_fn (c_len (I := II G XG K)) c rfl bt_len (sa_cons (sx_var (pv 2)) sa_nil))))).pt (ss_cons (ss_set c.nd (sx_ix (I := II G XG K) (sx_var (pv 2)) (sx_ix (I := II G XG K) (sx_var (pv 0)) sx_int))) (ss_cons (ss_sub (sx_op (o_own c (f := i_Ratio___add__) (c := 0) rfl rfl (o_add (I := II G XG K))) (sx_ix (I := II G XG K) (sx_var (pv 0)) sx_int) sx_int) (sx_var (pv 0)) sx_int) (ss_one (ss_if (st_cmp (o_ge (I := II G XG K)) (sx_var (pv 3)) (sx_op (o_pow (I := II G XG K)) sx_int sx_int)) (ss_one (ss_sub (sx_var (pv 3)) (sx_var (pv 0)) sx_int)) (ss_one (ss_sub (sx_op (o_mod (I := II G XG K)) (sx_ty (c_int (I := II G XG K)) c rfl bt_int (sa_cons (sx_op (o_own c (f := i_Ratio___add__) (c := 0) rfl rfl (o_add (I := II G XG K))) (sx_op (o_own c (f := i_Ratio___add__) (c := 0) rfl rfl (o_add (I := II G XG K))) (sx_op (o_own c (f := i_Ratio___mul__) (c := 0) rfl rfl (o_mul (I := II G XG K))) (sx_ix (I := II G XG K) (sx_var (pv 0)) sx_int) sx_int) (sx_op (o_own c (f := i_Ratio___mul__) (c := 0) rfl rfl (o_mul (I := II G XG K))) (sx_var (pv 3)) sx_int)) sx_int) sa_nil)) sx_int) (sx_var (pv 0)) sx_int)))))) ss_nil) (ss_cons (ss_if (st_cmp (o_gt (I := II G XG K)) (sx_ix (I := II G XG K) (sx_var (pv 0)) sx_int) sx_int) (ss_cons (ss_set c.nd (sx_op (o_mod (I := II G XG K)) (sx_ty (c_int (I := II G XG K)) c rfl bt_int (sa_cons (sx_ix (I := II G XG K) (sx_var (pv 0)) sx_int) sa_nil)) (sx_var (pv 1)))) (ss_cons (ss_sub (sx_op (o_div c (I := II G XG K)) (sx_ix (I := II G XG K) (sx_var (pv 0)) sx_int) (sx_var (pv 1))) (sx_var (pv 0)) sx_int) (ss_one (ss_ret (sx_var (pv 4)))))) ss_nil) (ss_cons (ss_sub (sx_op (o_mod (I := II G XG K)) (sx_ty (c_int (I := II G XG K)) c rfl bt_int (sa_cons (sx_op (o_own c (f := i_Ratio___add__) (c := 0) rfl rfl (o_add (I := II G XG K))) (sx_op (o_own c (f := i_Ratio___mul__) (c := 0) rfl rfl (o_mul (I := II G XG K))) (sx_ix (I := II G XG K) (sx_var (pv 0)) sx_int) sx_int) sx_int) sa_nil)) sx_int) (sx_var (pv 0)) sx_int) (ss_one (ss_ret (sx_op (o_mod (I := II G XG K)) (sx_ty (c_int (I := II G XG K)) c rfl bt_int (sa_cons (sx_op (o_own c (f := i_Ratio___add__) (c := 0) rfl rfl (o_add (I := II G XG K))) (sx_op (o_div c (I := II G XG K)) (sx_op (o_own c (f := i_Ratio___mul__) (c := 0) rfl rfl (o_mul (I := II G XG K))) (sx_ix (I := II G XG K) (sx_var (pv 0)) sx_int) (sx_ix (I := II G XG K) (sx_var (pv 0)) sx_int)) sx_int) (sx_op (o_div c (I := II G XG K)) (sx_ix (I := II G XG K) (sx_var (pv 0)) sx_int) sx_int)) sa_nil)) (sx_var (pv 1)))))))))) (cok_of T sc__law_draw hr)
theorem ok__law_great (hF : Fun K "_law_great" "_law_great" s__law_great fa fd) (T : Tb (JJ G XG) P w K mg base F Fi k) (he : ∀ ws S, F1 i__law_great ws S = runDef 4 2 (c__law_great F Fi) ws S) : FnOk P w K mg base (L2.CX P w) (k + 2) fa fd [("feed" : Str), ("parts" : Str)] (spOf (II G XG K) F1 i__law_great 2) :=
  def_ok hF sc__law_great rfl he fun cdv A outer s H E hr => (fun (c : Cok (JJ G XG) (cxOf (L2.CX P w) P w K mg base n__law_great "_law_great" (defScope s__law_great) fa cdv A outer s H E) (fun cls dd _ H' => E cls dd H') F Fi k) =>
    (ss_cons (ss_set c.nd sx_int) (ss_cons (ss_for c (si_range1 c rfl (sx_var (pv 1))) (sg_nm c.nd) (ss_one (ss_set c.nd (sx_op (o_own c (f := i_Ratio___add__) (c := 0) rfl rfl (o_add (I := II G XG K))) (sx_op (o_own c (f := i_Ratio___mul__) (c := 0) rfl rfl (o_mul (I := II G XG K))) (sx_var (pv 2)) sx_int) (sx_call c (f := i__law_draw) rfl (sa_cons (sx_var (pv 0)) (sa_cons sx_int sa_nil))))))) (ss_one (ss_ret (sx_var (pv 2))))))) (cok_of T sc__law_great hr)
theorem ok__law_pair (hF : Fun K "_law_pair" "_law_pair" s__law_pair fa fd) (T : Tb (JJ G XG) P w K mg base F Fi k) (he : ∀ ws S, F1 i__law_pair ws S = runDef 4 2 (c__law_pair F Fi) ws S) : FnOk P w K mg base (L2.CX P w) (k + 2) fa fd [("above" : Str), ("below" : Str)] (spOf (II G XG K) F1 i__law_pair 2) :=
  def_ok hF sc__law_pair rfl he fun cdv A outer s H E hr => (fun (c : Cok (JJ G XG) (cxOf (L2.CX P w) P w K mg base n__law_pair "_law_pair" (defScope s__law_pair) fa cdv A outer s H E) (fun cls dd _ H' => E cls dd H') F Fi k) =>
    (ss_cons (ss_set c.nd (sx_fn (c_abs (I := II G XG K)) c rfl bt_abs (sa_cons (sx_var (pv 0)) sa_nil))) (ss_cons (ss_set c.nd (sx_fn (c_abs (I := II G XG K)) c rfl bt_abs (sa_cons (sx_var (pv 1)) sa_nil))) (ss_cons (ss_while c (st_cmp (o_gt (I := II G XG K)) (sx_var (pv 3)) sx_int) (ss_one (ss_par c.calm c.nd (by decide) (sx_var (pv 3)) (sx_op (o_mod (I := II G XG K)) (sx_ty (c_int (I := II G XG K)) c rfl bt_int (sa_cons (sx_var (pv 2)) sa_nil)) (sx_var (pv 3)))))) (ss_cons (ss_if (st_cmp (o_lt (I := II G XG K)) (sx_var (pv 1)) sx_int) (ss_one (ss_set c.nd (sx_op (o_own c (f := i_Ratio___sub__) (c := 0) rfl rfl (o_sub (I := II G XG K))) sx_int (sx_var (pv 2))))) ss_nil) (ss_one (ss_ret (sx_tup (sa_cons (sx_op (o_div c (I := II G XG K)) (sx_var (pv 0)) (sx_var (pv 2))) (sa_cons (sx_op (o_div c (I := II G XG K)) (sx_var (pv 1)) (sx_var (pv 2))) sa_nil)))))))))) (cok_of T sc__law_pair hr)
theorem ok__law_is_integer (hF : Fun K "_law_is_integer" "_law_is_integer" s__law_is_integer fa fd) (T : Tb (JJ G XG) P w K mg base F Fi k) (he : ∀ ws S, F1 i__law_is_integer ws S = runDef 1 1 (c__law_is_integer F Fi) ws S) : FnOk P w K mg base (L2.CX P w) (k + 2) fa fd [("actual" : Str)] (spOf (II G XG K) F1 i__law_is_integer 1) :=
  def_ok hF sc__law_is_integer rfl he fun cdv A outer s H E hr => (fun (c : Cok (JJ G XG) (cxOf (L2.CX P w) P w K mg base n__law_is_integer "_law_is_integer" (defScope s__law_is_integer) fa cdv A outer s H E) (fun cls dd _ H' => E cls dd H') F Fi k) =>
    (ss_one (ss_ret (sx_and (sx_isT (T' := Ty.int) c rfl (by decide) rfl rfl bt_int (sx_var (pv 0))) (sx_one (sx_not (sx_isT (T' := Ty.bl) c rfl (by decide) rfl rfl bt_bool (sx_var (pv 0))))))))) (cok_of T sc__law_is_integer hr)
theorem ok__law_same (hF : Fun K "_law_same" "_law_same" s__law_same fa fd) (T : Tb (JJ G XG) P w K mg base F Fi k) (he : ∀ ws S, F1 i__law_same ws S = runDef 2 2 (c__law_same F Fi) ws S) : FnOk P w K mg base (L2.CX P w) (k + 2) fa fd [("actual" : Str), ("due" : Str)] (spOf (II G XG K) F1 i__law_same 2) :=
  def_ok hF sc__law_same rfl he fun cdv A outer s H E hr => (fun (c : Cok (JJ G XG) (cxOf (L2.CX P w) P w K mg base n__law_same "_law_same" (defScope s__law_same) fa cdv A outer s H E) (fun cls dd _ H' => E cls dd H') F Fi k) =>
    (ss_cons (ss_if (st_not (st_tr (truO_ne _ _ _) (tr_own c (f := i_Ratio___bool__) (c := 0) rfl) (sx_isC c rfl rfl (sx_var (pv 0))))) (ss_one (ss_ret sx_bl)) ss_nil) (ss_cons (ss_if (st_or (st_not (st_tr (truO_ne _ _ _) (tr_own c (f := i_Ratio___bool__) (c := 0) rfl) (sx_call c (f := i__law_is_integer) rfl (sa_cons (sx_attr c (c := 0) (i := 0) rfl nd_0 (sx_var (pv 0))) sa_nil)))) (st_or1 (st_not (st_tr (truO_ne _ _ _) (tr_own c (f := i_Ratio___bool__) (c := 0) rfl) (sx_call c (f := i__law_is_integer) rfl (sa_cons (sx_attr c (c := 0) (i := 1) rfl nd_0 (sx_var (pv 0))) sa_nil)))))).pt (ss_one (ss_ret sx_bl)) ss_nil) (ss_one (ss_ret (sx_and (sx_cmp (o_ownEq c (f := i_Ratio___eq__) (c := 0) rfl (o_eqG (I := II G XG K) (units64 c.room))) (sx_attr c (c := 0) (i := 0) rfl nd_0 (sx_var (pv 0))) (sx_ix (I := II G XG K) (sx_var (pv 1)) sx_int)) (sx_one (sx_cmp (o_ownEq c (f := i_Ratio___eq__) (c := 0) rfl (o_eqG (I := II G XG K) (units64 c.room))) (sx_attr c (c := 0) (i := 1) rfl nd_0 (sx_var (pv 0))) (sx_ix (I := II G XG K) (sx_var (pv 1)) sx_int))))))))) (cok_of T sc__law_same hr)
theorem ok__law_leaf (hF : Fun K "_law_leaf" "_law_leaf" s__law_leaf fa fd) (T : Tb (JJ G XG) P w K mg base F Fi k) (he : ∀ ws S, F1 i__law_leaf ws S = runDef 4 2 (c__law_leaf F Fi) ws S) : FnOk P w K mg base (L2.CX P w) (k + 2) fa fd [("feed" : Str), ("wide" : Str)] (spOf (II G XG K) F1 i__law_leaf 2) :=
  def_ok hF sc__law_leaf rfl he fun cdv A outer s H E hr => (fun (c : Cok (JJ G XG) (cxOf (L2.CX P w) P w K mg base n__law_leaf "_law_leaf" (defScope s__law_leaf) fa cdv A outer s H E) (fun cls dd _ H' => E cls dd H') F Fi k) =>
    (ss_cons (ss_set c.nd (sx_call c (f := i__law_draw) rfl (sa_cons (sx_var (pv 0)) (sa_cons sx_int sa_nil)))) (ss_cons (ss_if (st_cmp (o_lt (I := II G XG K)) (sx_var (pv 2)) sx_int) (ss_one (ss_ret (sx_tup (sa_cons sx_str (sa_cons (sx_ix (I := II G XG K) sx_str (sx_call c (f := i__law_draw) rfl (sa_cons (sx_var (pv 0)) (sa_cons sx_int sa_nil)))) sa_nil))))) ss_nil) (ss_cons (ss_if (st_cmp (o_ownEq c (f := i_Ratio___eq__) (c := 0) rfl (o_eqG (I := II G XG K) (units64 c.room))) (sx_var (pv 2)) sx_int) (ss_one (ss_ret (sx_tup (sa_cons sx_str (sa_cons (sx_tup (sa_cons (sx_op (o_own c (f := i_Ratio___sub__) (c := 0) rfl rfl (o_sub (I := II G XG K))) (sx_call c (f := i__law_draw) rfl (sa_cons (sx_var (pv 0)) (sa_cons sx_int sa_nil))) sx_int) (sa_cons sx_int sa_nil))) sa_nil))))) ss_nil) (ss_cons (ss_if (st_cmp (o_gt (I := II G XG K)) (sx_var (pv 1)) sx_int) (ss_cons (ss_set c.nd (sx_op (o_own c (f := i_Ratio___mul__) (c := 0) rfl rfl (o_mul (I := II G XG K))) (sx_call c (f := i__law_great) rfl (sa_cons (sx_var (pv 0)) (sa_cons (sx_var (pv 1)) sa_nil))) (sx_op (o_own c (f := i_Ratio___sub__) (c := 0) rfl rfl (o_sub (I := II G XG K))) sx_int (sx_op (o_own c (f := i_Ratio___mul__) (c := 0) rfl rfl (o_mul (I := II G XG K))) sx_int (sx_call c (f := i__law_draw) rfl (sa_cons (sx_var (pv 0)) (sa_cons sx_int sa_nil))))))) (ss_one (ss_ret (sx_tup (sa_cons sx_str (sa_cons (sx_call c (f := i__law_pair) rfl (sa_cons (sx_var (pv 3)) (sa_cons (sx_fn (c_max2 (I := II G XG K) c.calm) c rfl bt_max (sa_cons sx_int (sa_cons (sx_call c (f := i__law_great) rfl (sa_cons (sx_var (pv 0)) (sa_cons (sx_var (pv 1)) sa_nil))) sa_nil))) sa_nil))) sa_nil)))))) ss_nil) (ss_one (ss_ret (sx_tup (sa_cons sx_str (sa_cons (sx_call c (f := i__law_pair) rfl (sa_cons (sx_op (o_own c (f := i_Ratio___sub__) (c := 0) rfl rfl (o_sub (I := II G XG K))) (sx_call c (f := i__law_draw) rfl (sa_cons (sx_var (pv 0)) (sa_cons sx_int sa_nil))) sx_int) (sa_cons (sx_op (o_own c (f := i_Ratio___add__) (c := 0) rfl rfl (o_add (I := II G XG K))) sx_int (sx_call c (f := i__law_draw) rfl (sa_cons (sx_var (pv 0)) (sa_cons sx_int sa_nil)))) sa_nil))) sa_nil)))))))))) (cok_of T sc__law_leaf hr)
theorem ok__law_joined (hF : Fun K "_law_joined" "_law_joined" s__law_joined fa fd) (T : Tb (JJ G XG) P w K mg base F Fi k) (he : ∀ ws S, F1 i__law_joined ws S = runDef 3 3 (c__law_joined F Fi) ws S) : FnOk P w K mg base (L2.CX P w) (k + 2) fa fd [("feed" : Str), ("one" : Str), ("two" : Str)] (spOf (II G XG K) F1 i__law_joined 3) :=
  def_ok hF sc__law_joined rfl he fun cdv A outer s H E hr => (fun (c : Cok (JJ G XG) (cxOf (L2.CX P w) P w K mg base n__law_joined "_law_joined" (defScope s__law_joined) fa cdv A outer s H E) (fun cls dd _ H' => E cls dd H') F Fi k) =>
    (ss_one (ss_ret (sx_tup (sa_cons (sx_ix (I := II G XG K) (sx_lst (sa_cons sx_str (sa_cons sx_str sa_nil))) (sx_call c (f := i__law_draw) rfl (sa_cons (sx_var (pv 0)) (sa_cons sx_int sa_nil)))) (sa_cons (sx_var (pv 1)) (sa_cons (sx_var (pv 2)) sa_nil))))))) (cok_of T sc__law_joined hr)
theorem ok__law_bush (hF : Fun K "_law_bush" "_law_bush" s__law_bush fa fd) (T : Tb (JJ G XG) P w K mg base F Fi k) (he : ∀ ws S, F1 i__law_bush ws S = runDef 6 2 (c__law_bush F Fi) ws S) : FnOk P w K mg base (L2.CX P w) (k + 2) fa fd [("feed" : Str), ("wide" : Str)] (spOf (II G XG K) F1 i__law_bush 2) :=
  def_ok hF sc__law_bush rfl he fun cdv A outer s H E hr => (fun (c : Cok (JJ G XG) (cxOf (L2.CX P w) P w K mg base n__law_bush "_law_bush" (defScope s__law_bush) fa cdv A outer s H E) (fun cls dd _ H' => E cls dd H') F Fi k) =>
    (ss_cons (ss_comp .cell c (own := [("k", 5)]) (si_range1 c rfl (sx_op (o_own c (f := i_Ratio___add__) (c := 0) rfl rfl (o_add (I := II G XG K))) sx_int (sx_call c (f := i__law_draw) rfl (sa_cons (sx_var (pv 0)) (sa_cons sx_int sa_nil))))) (by decide) (blkOk_by (N := n__law_bush) (sc := defScope s__law_bush) (by decide +kernel)) (fun _ _ _ _ _ => (sg_nm (c.blk _ _ _ _ _).nd)) (fun _ _ _ _ _ => sts_nil) (fun _ _ _ _ _ => (sx_call (c.blk _ _ _ _ _) (f := i__law_leaf) rfl (sa_cons (sx_var (pv 0)) (sa_cons (sx_var (pv 1)) sa_nil))))) (ss_cons (ss_for c (si_range1 c rfl sx_int) (sg_nm c.nd) (ss_cons (ss_if (st_cmp (o_ownEq c (f := i_Ratio___eq__) (c := 0) rfl (o_eqG (I := II G XG K) (units64 c.room))) (sx_call c (f := i__law_draw) rfl (sa_cons (sx_var (pv 0)) (sa_cons sx_int sa_nil))) sx_int) (ss_cons (ss_set c.nd (sx_call c (f := i__law_draw) rfl (sa_cons (sx_var (pv 0)) (sa_cons (sx_fn (c_len (I := II G XG K)) c rfl bt_len (sa_cons (sx_var (pv 2)) sa_nil)) sa_nil)))) (ss_one (ss_sub (sx_tup (sa_cons sx_str (sa_cons (sx_ix (I := II G XG K) (sx_var (pv 2)) (sx_var (pv 4))) sa_nil))) (sx_var (pv 2)) (sx_var (pv 4))))) ss_nil) (ss_one (ss_if (st_cmp (o_gt (I := II G XG K)) (sx_fn (c_len (I := II G XG K)) c rfl bt_len (sa_cons (sx_var (pv 2)) sa_nil)) sx_int) (ss_cons (ss_set c.nd (sx_call c (f := i__law_draw) rfl (sa_cons (sx_var (pv 0)) (sa_cons (sx_op (o_own c (f := i_Ratio___sub__) (c := 0) rfl rfl (o_sub (I := II G XG K))) (sx_fn (c_len (I := II G XG K)) c rfl bt_len (sa_cons (sx_var (pv 2)) sa_nil)) sx_int) sa_nil)))) (ss_one (ss_set c.nd (sx_op (o_addC (I := II G XG K)) (sx_op (o_own c (f := i_Ratio___add__) (c := 0) rfl rfl (o_add (I := II G XG K))) (sx_sl (I := II G XG K) (sx_var (pv 2)) so_none (so_some (sx_var (pv 4)))) (sx_lst (sa_cons (sx_call c (f := i__law_joined) rfl (sa_cons (sx_var (pv 0)) (sa_cons (sx_ix (I := II G XG K) (sx_var (pv 2)) (sx_var (pv 4))) (sa_cons (sx_ix (I := II G XG K) (sx_var (pv 2)) (sx_op (o_own c (f := i_Ratio___add__) (c := 0) rfl rfl (o_add (I := II G XG K))) (sx_var (pv 4)) sx_int)) sa_nil)))) sa_nil))) (sx_sl (I := II G XG K) (sx_var (pv 2)) (so_some (sx_op (o_own c (f := i_Ratio___add__) (c := 0) rfl rfl (o_add (I := II G XG K))) (sx_var (pv 4)) sx_int)) so_none))))) ss_nil)))) (ss_one (ss_frz (ss_ret (sx_ix (I := II G XG K) (sx_var (pv 2)) sx_int))))))) (cok_of T sc__law_bush hr)
theorem ok__law_chain (hF : Fun K "_law_chain" "_law_chain" s__law_chain fa fd) (T : Tb (JJ G XG) P w K mg base F Fi k) (he : ∀ ws S, F1 i__law_chain ws S = runDef 6 3 (c__law_chain F Fi) ws S) : FnOk P w K mg base (L2.CX P w) (k + 2) fa fd [("feed" : Str), ("wide" : Str), ("many" : Str)] (spOf (II G XG K) F1 i__law_chain 3) :=
  def_ok hF sc__law_chain rfl he fun cdv A outer s H E hr => (fun (c : Cok (JJ G XG) (cxOf (L2.CX P w) P w K mg base n__law_chain "_law_chain" (defScope s__law_chain) fa cdv A outer s H E) (fun cls dd _ H' => E cls dd H') F Fi k) =>
    (ss_cons (ss_set c.nd (sx_call c (f := i__law_leaf) rfl (sa_cons (sx_var (pv 0)) (sa_cons (sx_var (pv 1)) sa_nil)))) (ss_cons (ss_for c (si_range1 c rfl (sx_var (pv 2))) (sg_nm c.nd) (ss_cons (ss_set c.nd (sx_call c (f := i__law_draw) rfl (sa_cons (sx_var (pv 0)) (sa_cons sx_int sa_nil)))) (ss_one (ss_if (st_cmp (o_ownEq c (f := i_Ratio___eq__) (c := 0) rfl (o_eqG (I := II G XG K) (units64 c.room))) (sx_var (pv 5)) sx_int) (ss_one (ss_set c.nd (sx_tup (sa_cons sx_str (sa_cons (sx_var (pv 3)) sa_nil))))) (ss_one (ss_if (st_cmp (o_ownEq c (f := i_Ratio___eq__) (c := 0) rfl (o_eqG (I := II G XG K) (units64 c.room))) (sx_var (pv 5)) sx_int) (ss_one (ss_set c.nd (sx_call c (f := i__law_joined) rfl (sa_cons (sx_var (pv 0)) (sa_cons (sx_var (pv 3)) (sa_cons (sx_call c (f := i__law_leaf) rfl (sa_cons (sx_var (pv 0)) (sa_cons (sx_var (pv 1)) sa_nil))) sa_nil)))))) (ss_one (ss_set c.nd (sx_call c (f := i__law_joined) rfl (sa_cons (sx_var (pv 0)) (sa_cons (sx_call c (f := i__law_leaf) rfl (sa_cons (sx_var (pv 0)) (sa_cons (sx_var (pv 1)) sa_nil))) (sa_cons (sx_var (pv 3)) sa_nil)))))))))))) (ss_one (ss_ret (sx_var (pv 3))))))) (cok_of T sc__law_chain hr)
theorem ok__law_wide_term (hF : Fun K "_law_wide_term" "_law_wide_term" s__law_wide_term fa fd) (T : Tb (JJ G XG) P w K mg base F Fi k) (he : ∀ ws S, F1 i__law_wide_term ws S = runDef 7 2 (c__law_wide_term F Fi) ws S) : FnOk P w K mg base (L2.CX P w) (k + 2) fa fd [("feed" : Str), ("wide" : Str)] (spOf (II G XG K) F1 i__law_wide_term 2) :=
  def_ok hF sc__law_wide_term rfl he fun cdv A outer s H E hr => (fun (c : Cok (JJ G XG) (cxOf (L2.CX P w) P w K mg base n__law_wide_term "_law_wide_term" (defScope s__law_wide_term) fa cdv A outer s H E) (fun cls dd _ H' => E cls dd H') F Fi k) =>
    (ss_cons (ss_set c.nd (sx_comp c (own := [("k", 5)]) (si_range1 c rfl sx_int) (by decide) (blkOk_by (N := n__law_wide_term) (sc := defScope s__law_wide_term) (by decide +kernel)) (fun _ _ _ _ _ => (sg_nm (c.blk _ _ _ _ _).nd)) (fun _ _ _ _ _ => sts_nil) (fun _ _ _ _ _ => (sx_call (c.blk _ _ _ _ _) (f := i__law_leaf) rfl (sa_cons (sx_var (pv 0)) (sa_cons (sx_var (pv 1)) sa_nil)))))) (ss_cons (ss_for c (si_range1 c rfl sx_int) (sg_nm c.nd) (ss_cons (ss_comp .plain c (own := [("k", 5)]) (si_rangeS c rfl sx_int (sx_fn (c_len (I := II G XG K)) c rfl bt_len (sa_cons (sx_var (pv 2)) sa_nil)) sx_int) (by decide) (blkOk_by (N := n__law_wide_term) (sc := defScope s__law_wide_term) (by decide +kernel)) (fun _ _ _ _ _ => (sg_nm (c.blk _ _ _ _ _).nd)) (fun _ _ _ _ _ => sts_nil) (fun _ _ _ _ _ => (sx_sl (I := II G XG K) (sx_var (pv 2)) (so_some (sx_var (pv 5))) (so_some (sx_op (o_own (c.blk _ _ _ _ _) (f := i_Ratio___add__) (c := 0) rfl rfl (o_add (I := II G XG K))) (sx_var (pv 5)) sx_int))))) (ss_one (ss_set c.nd (sx_op (o_own c (f := i_Ratio___add__) (c := 0) rfl rfl (o_add (I := II G XG K))) (sx_comp c (own := [("pair", 6)]) (si_any (I := II G XG K) (sx_var (pv 4))) (by decide) (blkOk_by (N := n__law_wide_term) (sc := defScope s__law_wide_term) (by decide +kernel)) (fun _ _ _ _ _ => (sg_nm (c.blk _ _ _ _ _).nd)) (fun _ _ _ _ _ => sts_one (st_cmp (o_ownEq (c.blk _ _ _ _ _) (f := i_Ratio___eq__) (c := 0) rfl (o_eqG (I := II G XG K) (units64 (c.blk _ _ _ _ _).room))) (sx_fn (c_len (I := II G XG K)) (c.blk _ _ _ _ _) rfl bt_len (sa_cons (sx_var (pv 6)) sa_nil)) sx_int)) (fun _ _ _ _ _ => (sx_call (c.blk _ _ _ _ _) (f := i__law_joined) rfl (sa_cons (sx_var (pv 0)) (sa_cons (sx_ix (I := II G XG K) (sx_var (pv 6)) sx_int) (sa_cons (sx_ix (I := II G XG K) (sx_var (pv 6)) (sx_un (u_neg (I := II G XG K)) sx_int)) sa_nil)))))) (sx_sl (I := II G XG K) (sx_var (pv 2)) (so_some (sx_op (o_own c (f := i_Ratio___mul__) (c := 0) rfl rfl (o_mul (I := II G XG K))) (sx_op (o_div c (I := II G XG K)) (sx_fn (c_len (I := II G XG K)) c rfl bt_len (sa_cons (sx_var (pv 2)) sa_nil)) sx_int) sx_int)) so_none)))))) (ss_one (ss_ret (sx_ix (I := II G XG K) (sx_var (pv 2)) sx_int)))))) (cok_of T sc__law_wide_term hr)
theorem ok__law_term (hF : Fun K "_law_term" "_law_term" s__law_term fa fd) (T : Tb (JJ G XG) P w K mg base F Fi k) (he : ∀ ws S, F1 i__law_term ws S = runDef 3 1 (c__law_term F Fi) ws S) : FnOk P w K mg base (L2.CX P w) (k + 2) fa fd [("feed" : Str)] (spOf (II G XG K) F1 i__law_term 1) :=
  def_ok hF sc__law_term rfl he fun cdv A outer s H E hr => (fun (c : Cok (JJ G XG) (cxOf (L2.CX P w) P w K mg base n__law_term "_law_term" (defScope s__law_term) fa cdv A outer s H E) (fun cls dd _ H' => E cls dd H') F Fi k) =>
    (ss_cons (ss_set c.nd (sx_op (o_own c (f := i_Ratio___mul__) (c := 0) rfl rfl (o_mul (I := II G XG K))) sx_int (sx_ty (c_int (I := II G XG K)) c rfl bt_int (sa_cons (sx_cmp (o_ownEq c (f := i_Ratio___eq__) (c := 0) rfl (o_eqG (I := II G XG K) (units64 c.room))) (sx_call c (f := i__law_draw) rfl (sa_cons (sx_var (pv 0)) (sa_cons sx_int sa_nil))) sx_int) sa_nil)))) (ss_cons (ss_set c.nd (sx_call c (f := i__law_draw) rfl (sa_cons (sx_var (pv 0)) (sa_cons sx_int sa_nil)))) (ss_cons (ss_if (st_cmp (o_ownEq c (f := i_Ratio___eq__) (c := 0) rfl (o_eqG (I := II G XG K) (units64 c.room))) (sx_var (pv 2)) sx_int) (ss_one (ss_ret (sx_call c (f := i__law_chain) rfl (sa_cons (sx_var (pv 0)) (sa_cons (sx_var (pv 1)) (sa_cons sx_int sa_nil)))))) ss_nil) (ss_cons (ss_if (st_cmp (o_lt (I := II G XG K)) (sx_var (pv 2)) sx_int) (ss_one (ss_ret (sx_call c (f := i__law_chain) rfl (sa_cons (sx_var (pv 0)) (sa_cons (sx_var (pv 1)) (sa_cons (sx_call c (f := i__law_draw) rfl (sa_cons (sx_var (pv 0)) (sa_cons sx_int sa_nil))) sa_nil)))))) ss_nil) (ss_cons (ss_if (st_cmp (o_ownEq c (f := i_Ratio___eq__) (c := 0) rfl (o_eqG (I := II G XG K) (units64 c.room))) (sx_var (pv 2)) sx_int) (ss_one (ss_ret (sx_call c (f := i__law_wide_term) rfl (sa_cons (sx_var (pv 0)) (sa_cons (sx_var (pv 1)) sa_nil))))) ss_nil) (ss_one (ss_ret (sx_call c (f := i__law_bush) rfl (sa_cons (sx_var (pv 0)) (sa_cons (sx_var (pv 1)) sa_nil))))))))))) (cok_of T sc__law_term hr)
theorem ok__law_made (hF : Fun K "_law_made" "_law_made" s__law_made fa fd) (T : Tb (JJ G XG) P w K mg base F Fi k) (he : ∀ ws S, F1 i__law_made ws S = runDef 1 1 (c__law_made F Fi) ws S) : FnOk P w K mg base (L2.CX P w) (k + 2) fa fd [("term" : Str)] (spOf (II G XG K) F1 i__law_made 1) :=
  def_ok hF sc__law_made rfl he fun cdv A outer s H E hr => (fun (c : Cok (JJ G XG) (cxOf (L2.CX P w) P w K mg base n__law_made "_law_made" (defScope s__law_made) fa cdv A outer s H E) (fun cls dd _ H' => E cls dd H') F Fi k) =>
    (ss_cons (ss_if (st_cmp (o_ownEq c (f := i_Ratio___eq__) (c := 0) rfl (o_eqG (I := II G XG K) (units64 c.room))) (sx_ix (I := II G XG K) (sx_var (pv 0)) sx_int) sx_str) (ss_one (ss_ret (sx_tup (sa_cons sx_str (sa_cons (sx_mkF c (x := "Ratio") (dfl := []) (dvs := []) rfl (by decide +kernel) (fun _ => .nil) rfl (sa_cons (sx_ix (I := II G XG K) (sx_ix (I := II G XG K) (sx_var (pv 0)) sx_int) sx_int) (sa_cons (sx_ix (I := II G XG K) (sx_ix (I := II G XG K) (sx_var (pv 0)) sx_int) sx_int) sa_nil))) sa_nil))))) ss_nil) (ss_cons (ss_if (st_cmp (o_ownEq c (f := i_Ratio___eq__) (c := 0) rfl (o_eqG (I := II G XG K) (units64 c.room))) (sx_ix (I := II G XG K) (sx_var (pv 0)) sx_int) sx_str) (ss_one (ss_ret (sx_var (pv 0)))) ss_nil) (ss_cons (ss_if (st_cmp (o_ownEq c (f := i_Ratio___eq__) (c := 0) rfl (o_eqG (I := II G XG K) (units64 c.room))) (sx_ix (I := II G XG K) (sx_var (pv 0)) sx_int) sx_str) (ss_one (ss_ret (sx_tup (sa_cons sx_str (sa_cons (sx_call c (f := i__law_made) rfl (sa_cons (sx_ix (I := II G XG K) (sx_var (pv 0)) sx_int) sa_nil)) sa_nil))))) ss_nil) (ss_one (ss_ret (sx_tup (sa_cons (sx_ix (I := II G XG K) (sx_var (pv 0)) sx_int) (sa_cons (sx_call c (f := i__law_made) rfl (sa_cons (sx_ix (I := II G XG K) (sx_var (pv 0)) sx_int) sa_nil)) (sa_cons (sx_call c (f := i__law_made) rfl (sa_cons (sx_ix (I := II G XG K) (sx_var (pv 0)) sx_int) sa_nil)) sa_nil)))))))))) (cok_of T sc__law_made hr)
theorem ok__law_text (hF : Fun K "_law_text" "_law_text" s__law_text fa fd) (T : Tb (JJ G XG) P w K mg base F Fi k) (he : ∀ ws S, F1 i__law_text ws S = runDef 1 1 (c__law_text F Fi) ws S) : FnOk P w K mg base (L2.CX P w) (k + 2) fa fd [("one" : Str)] (spOf (II G XG K) F1 i__law_text 1) :=
  def_ok hF sc__law_text rfl he fun cdv A outer s H E hr => (fun (c : Cok (JJ G XG) (cxOf (L2.CX P w) P w K mg base n__law_text "_law_text" (defScope s__law_text) fa cdv A outer s H E) (fun cls dd _ H' => E cls dd H') F Fi k) =>
    (ss_cons (ss_if (st_cmp (o_ownEq c (f := i_Ratio___eq__) (c := 0) rfl (o_eqG (I := II G XG K) (units64 c.room))) (sx_ix (I := II G XG K) (sx_var (pv 0)) sx_int) sx_int) (ss_one (ss_ret (sx_ty (c_str (I := II G XG K)) c rfl bt_str (sa_cons (sx_ix (I := II G XG K) (sx_var (pv 0)) sx_int) sa_nil)))) ss_nil) (ss_one (ss_ret (sx_op (o_own c (f := i_Ratio___add__) (c := 0) rfl rfl (o_add (I := II G XG K))) (sx_op (o_own c (f := i_Ratio___add__) (c := 0) rfl rfl (o_add (I := II G XG K))) (sx_ty (c_str (I := II G XG K)) c rfl bt_str (sa_cons (sx_ix (I := II G XG K) (sx_var (pv 0)) sx_int) sa_nil)) sx_str) (sx_ty (c_str (I := II G XG K)) c rfl bt_str (sa_cons (sx_ix (I := II G XG K) (sx_var (pv 0)) sx_int) sa_nil))))))) (cok_of T sc__law_text hr)
theorem ok__law_part (hF : Fun K "_law_part" "_law_part" s__law_part fa fd) (T : Tb (JJ G XG) P w K mg base F Fi k) (he : ∀ ws S, F1 i__law_part ws S = runDef 2 2 (c__law_part F Fi) ws S) : FnOk P w K mg base (L2.CX P w) (k + 2) fa fd [("term" : Str), ("barred" : Str)] (spOf (II G XG K) F1 i__law_part 2) :=
  def_ok hF sc__law_part rfl he fun cdv A outer s H E hr => (fun (c : Cok (JJ G XG) (cxOf (L2.CX P w) P w K mg base n__law_part "_law_part" (defScope s__law_part) fa cdv A outer s H E) (fun cls dd _ H' => E cls dd H') F Fi k) =>
    (ss_cons (ss_if (st_cmp (o_in (I := II G XG K) (units65 c.room)) (sx_ix (I := II G XG K) (sx_var (pv 0)) sx_int) (sx_var (pv 1))) (ss_one (ss_ret (sx_op (o_own c (f := i_Ratio___add__) (c := 0) rfl rfl (o_add (I := II G XG K))) (sx_op (o_own c (f := i_Ratio___add__) (c := 0) rfl rfl (o_add (I := II G XG K))) sx_str (sx_call c (f := i__law_write) rfl (sa_cons (sx_var (pv 0)) sa_nil))) sx_str))) ss_nil) (ss_one (ss_ret (sx_call c (f := i__law_write) rfl (sa_cons (sx_var (pv 0)) sa_nil)))))) (cok_of T sc__law_part hr)
theorem ok__law_write (hF : Fun K "_law_write" "_law_write" s__law_write fa fd) (T : Tb (JJ G XG) P w K mg base F Fi k) (he : ∀ ws S, F1 i__law_write ws S = runDef 1 1 (c__law_write F Fi) ws S) : FnOk P w K mg base (L2.CX P w) (k + 2) fa fd [("term" : Str)] (spOf (II G XG K) F1 i__law_write 1) :=
  def_ok hF sc__law_write rfl he fun cdv A outer s H E hr => (fun (c : Cok (JJ G XG) (cxOf (L2.CX P w) P w K mg base n__law_write "_law_write" (defScope s__law_write) fa cdv A outer s H E) (fun cls dd _ H' => E cls dd H') F Fi k) =>
    (ss_cons (ss_if (st_cmp (o_ownEq c (f := i_Ratio___eq__) (c := 0) rfl (o_eqG (I := II G XG K) (units64 c.room))) (sx_ix (I := II G XG K) (sx_var (pv 0)) sx_int) sx_str) (ss_one (ss_ret (sx_call c (f := i__law_text) rfl (sa_cons (sx_ix (I := II G XG K) (sx_var (pv 0)) sx_int) sa_nil)))) ss_nil) (ss_cons (ss_if (st_cmp (o_ownEq c (f := i_Ratio___eq__) (c := 0) rfl (o_eqG (I := II G XG K) (units64 c.room))) (sx_ix (I := II G XG K) (sx_var (pv 0)) sx_int) sx_str) (ss_one (ss_ret (sx_ix (I := II G XG K) (sx_var (pv 0)) sx_int))) ss_nil) (ss_cons (ss_if (st_cmp (o_ownEq c (f := i_Ratio___eq__) (c := 0) rfl (o_eqG (I := II G XG K) (units64 c.room))) (sx_ix (I := II G XG K) (sx_var (pv 0)) sx_int) sx_str) (ss_one (ss_ret (sx_op (o_own c (f := i_Ratio___add__) (c := 0) rfl rfl (o_add (I := II G XG K))) (sx_op (o_own c (f := i_Ratio___add__) (c := 0) rfl rfl (o_add (I := II G XG K))) (sx_call c (f := i__law_write) rfl (sa_cons (sx_ix (I := II G XG K) (sx_var (pv 0)) sx_int) sa_nil)) sx_str) (sx_call c (f := i__law_part) rfl (sa_cons (sx_ix (I := II G XG K) (sx_var (pv 0)) sx_int) (sa_cons (sx_lst (sa_cons sx_str sa_nil)) sa_nil)))))) ss_nil) (ss_cons (ss_if (st_cmp (o_ownEq c (f := i_Ratio___eq__) (c := 0) rfl (o_eqG (I := II G XG K) (units64 c.room))) (sx_ix (I := II G XG K) (sx_var (pv 0)) sx_int) sx_str) (ss_one (ss_ret (sx_op (o_own c (f := i_Ratio___add__) (c := 0) rfl rfl (o_add (I := II G XG K))) (sx_op (o_own c (f := i_Ratio___add__) (c := 0) rfl rfl (o_add (I := II G XG K))) (sx_call c (f := i__law_part) rfl (sa_cons (sx_ix (I := II G XG K) (sx_var (pv 0)) sx_int) (sa_cons (sx_lst (sa_cons sx_str sa_nil)) sa_nil))) sx_str) (sx_call c (f := i__law_part) rfl (sa_cons (sx_ix (I := II G XG K) (sx_var (pv 0)) sx_int) (sa_cons (sx_lst (sa_cons sx_str (sa_cons sx_str sa_nil))) sa_nil)))))) ss_nil) (ss_one (ss_ret (sx_op (o_own c (f := i_Ratio___add__) (c := 0) rfl rfl (o_add (I := II G XG K))) (sx_call c (f := i__law_part) rfl (sa_cons (sx_ix (I := II G XG K) (sx_var (pv 0)) sx_int) (sa_cons (sx_lst (sa_cons sx_str (sa_cons sx_str sa_nil))) sa_nil))) sx_str)))))))) (cok_of T sc__law_write hr)
theorem ok__law_same_term (hF : Fun K "_law_same_term" "_law_same_term" s__law_same_term fa fd) (T : Tb (JJ G XG) P w K mg base F Fi k) (he : ∀ ws S, F1 i__law_same_term ws S = runDef 7 2 (c__law_same_term F Fi) ws S) : FnOk P w K mg base (L2.CX P w) (k + 2) fa fd [("actual" : Str), ("due" : Str)] (spOf (II G XG K) F1 i__law_same_term 2) :=
  def_ok hF sc__law_same_term rfl he fun cdv A outer s H E hr => (fun (c : Cok (JJ G XG) (cxOf (L2.CX P w) P w K mg base n__law_same_term "_law_same_term" (defScope s__law_same_term) fa cdv A outer s H E) (fun cls dd _ H' => E cls dd H') F Fi k) =>
    (ss_cons (ss_set c.nd (sx_lstC (sa_cons (sx_tup (sa_cons (sx_var (pv 0)) (sa_cons (sx_var (pv 1)) sa_nil))) sa_nil))) (ss_cons (ss_while c (st_cmp (o_gt (I := II G XG K)) (sx_fn (c_len (I := II G XG K)) c rfl bt_len (sa_cons (sx_var (pv 2)) sa_nil)) sx_int) (ss_cons (ss_set c.nd (sx_bm0 (I := II G XG K) PySem.F.plainAttrs_list PySem.F.slot_list_pop PySem.F.type_list_pop (m_pop (I := II G XG K)) (sx_var (pv 2)))) (ss_cons (ss_set c.nd (sx_ix (I := II G XG K) (sx_var (pv 3)) sx_int)) (ss_cons (ss_set c.nd (sx_ix (I := II G XG K) (sx_var (pv 3)) sx_int)) (ss_cons (ss_if (st_or (st_not (st_tr (truO_ne _ _ _) (tr_own c (f := i_Ratio___bool__) (c := 0) rfl) (sx_isT (T' := Ty.tup) c rfl (by decide) rfl rfl bt_tuple (sx_var (pv 4))))) (st_or (st_cmp (o_neG (I := II G XG K) (units64 c.room)) (sx_fn (c_len (I := II G XG K)) c rfl bt_len (sa_cons (sx_var (pv 4)) sa_nil)) (sx_fn (c_len (I := II G XG K)) c rfl bt_len (sa_cons (sx_var (pv 5)) sa_nil))) (st_or (st_not (st_tr (truO_ne _ _ _) (tr_own c (f := i_Ratio___bool__) (c := 0) rfl) (sx_isT (T' := Ty.str) c rfl (by decide) rfl rfl bt_str (sx_ix (I := II G XG K) (sx_var (pv 4)) sx_int)))) (st_or1 (st_cmp (o_neG (I := II G XG K) (units64 c.room)) (sx_ix (I := II G XG K) (sx_var (pv 4)) sx_int) (sx_ix (I := II G XG K) (sx_var (pv 5)) sx_int)))))).pt (ss_one (ss_ret sx_bl)) ss_nil) (ss_one (ss_if (st_cmp (o_ownEq c (f := i_Ratio___eq__) (c := 0) rfl (o_eqG (I := II G XG K) (units64 c.room))) (sx_ix (I := II G XG K) (sx_var (pv 5)) sx_int) sx_str) (ss_one (ss_if (st_not (st_tr (truO_ne _ _ _) (tr_own c (f := i_Ratio___bool__) (c := 0) rfl) (sx_call c (f := i__law_same) rfl (sa_cons (sx_ix (I := II G XG K) (sx_var (pv 4)) sx_int) (sa_cons (sx_ix (I := II G XG K) (sx_var (pv 5)) sx_int) sa_nil))))) (ss_one (ss_ret sx_bl)) ss_nil)) (ss_one (ss_if (st_cmp (o_ownEq c (f := i_Ratio___eq__) (c := 0) rfl (o_eqG (I := II G XG K) (units64 c.room))) (sx_ix (I := II G XG K) (sx_var (pv 5)) sx_int) sx_str) (ss_one (ss_if (st_or (st_not (st_tr (truO_ne _ _ _) (tr_own c (f := i_Ratio___bool__) (c := 0) rfl) (sx_isT (T' := Ty.str) c rfl (by decide) rfl rfl bt_str (sx_ix (I := II G XG K) (sx_var (pv 4)) sx_int)))) (st_or1 (st_cmp (o_neG (I := II G XG K) (units64 c.room)) (sx_ix (I := II G XG K) (sx_var (pv 4)) sx_int) (sx_ix (I := II G XG K) (sx_var (pv 5)) sx_int)))).pt (ss_one (ss_ret sx_bl)) ss_nil)) (ss_one (ss_for c (si_range2 c rfl sx_int (sx_fn (c_len (I := II G XG K)) c rfl bt_len (sa_cons (sx_var (pv 5)) sa_nil))) (sg_nm c.nd) (ss_one (ss_expr (sx_app (I := II G XG K) (sx_var (pv 2)) (sx_tup (sa_cons (sx_ix (I := II G XG K) (sx_var (pv 4)) (sx_var (pv 6))) (sa_cons (sx_ix (I := II G XG K) (sx_var (pv 5)) (sx_var (pv 6))) sa_nil))))))))))))))))) (ss_one (ss_ret sx_bl))))) (cok_of T sc__law_same_term hr)
theorem ok_law (hF : Fun K "law" "law" s_law fa fd) (T : Tb (JJ G XG) P w K mg base F Fi k) (he : ∀ ws S, F1 i_law ws S = runDef 8 1 (c_law F Fi) ws S) : FnOk P w K mg base (L2.CX P w) (k + 2) fa fd [("script" : Str)] (spOf (II G XG K) F1 i_law 1) :=
  def_ok hF sc_law rfl he fun cdv A outer s H E hr => (fun (c : Cok (JJ G XG) (cxOf (L2.CX P w) P w K mg base n_law "law" (defScope s_law) fa cdv A outer s H E) (fun cls dd _ H' => E cls dd H') F Fi k) =>
    (ss_cons (ss_set c.nd (sx_call c (f := i__law_feed) rfl (sa_cons (sx_var (pv 0)) sa_nil))) (ss_cons (ss_set c.nd (sx_lstC sa_nil)) (ss_cons (ss_for c (si_range1 c rfl sx_int) (sg_nm c.nd) (ss_cons (ss_set c.nd (sx_call c (f := i__law_term) rfl (sa_cons (sx_var (pv 1)) sa_nil))) (ss_one (ss_expr (sx_app (I := II G XG K) (sx_var (pv 2)) (sx_lst (sa_cons (sx_var (pv 4)) (sa_cons (sx_call c (f := i__law_made) rfl (sa_cons (sx_var (pv 4)) sa_nil)) (sa_cons (sx_call c (f := i__law_write) rfl (sa_cons (sx_var (pv 4)) sa_nil)) sa_nil))))))))) (ss_cons (ss_frz (ss_for c (si_range1 c rfl sx_int) (sg_nm c.nd) (ss_one (ss_for c (si_any (I := II G XG K) (sx_var (pv 2))) (sg_nm c.nd) (ss_cons (ss_set c.nd (sx_call c (f := i_write_sum) rfl (sa_cons (sx_ix (I := II G XG K) (sx_var (pv 6)) sx_int) sa_nil))) (ss_cons (ss_if (st_or (st_not (st_tr (truO_ne _ _ _) (tr_own c (f := i_Ratio___bool__) (c := 0) rfl) (sx_isT (T' := Ty.str) c rfl (by decide) rfl rfl bt_str (sx_var (pv 7))))) (st_or1 (st_cmp (o_neG (I := II G XG K) (units64 c.room)) (sx_var (pv 7)) (sx_ix (I := II G XG K) (sx_var (pv 6)) sx_int)))).pt (ss_one (ss_ret sx_bl)) ss_nil) (ss_one (ss_if (st_cmp (o_neG (I := II G XG K) (units64 c.room)) (sx_call c (f := i_write_sum) rfl (sa_cons (sx_call c (f := i__law_made) rfl (sa_cons (sx_ix (I := II G XG K) (sx_var (pv 6)) sx_int) sa_nil)) sa_nil)) (sx_ix (I := II G XG K) (sx_var (pv 6)) sx_int)) (ss_one (ss_ret sx_bl)) ss_nil)))))))) (ss_one (ss_ret (sx_and (sx_call c (f := i__law_same_term) rfl (sa_cons (sx_ix (I := II G XG K) (sx_ix (I := II G XG K) (sx_var (pv 2)) sx_int) sx_int) (sa_cons (sx_ix (I := II G XG K) (sx_ix (I := II G XG K) (sx_var (pv 2)) sx_int) sx_int) sa_nil))) (sx_one (sx_call c (f := i__law_same_term) rfl (sa_cons (sx_ix (I := II G XG K) (sx_ix (I := II G XG K) (sx_var (pv 2)) sx_int) sx_int) (sa_cons (sx_ix (I := II G XG K) (sx_ix (I := II G XG K) (sx_var (pv 2)) sx_int) sx_int) sa_nil)))))))))))) (cok_of T sc_law hr)
end
end Lw
namespace Lw
open PySem PySem.Spec PyProof.Rows L2 Py
theorem all_mk {l : PySem.W.OpenLaw} {w : World} {K : PySem.W.Frag} {h : Heap} {mg : Str → Option Value} {fa : Addr} (X : K.In h) (GG : h.Ns mainGlobals mg) (hfa : mg "law" = some (.ref fa))
    {C0 : Addr}
    {f0 : Addr}
    {od0 an0 : Option Addr}
    {sl0 : Array (Option Value)}
    {oc0 kV0 dc0 pm0 cd0 ct0 : Value}
    {f1 : Addr}
    {od1 an1 : Option Addr}
    {sl1 : Array (Option Value)}
    {oc1 kV1 dc1 pm1 cd1 ct1 : Value}
    {dT1 : Addr}
    {dto1 : Option Addr}
    {dtc1 : Value}
    {dts1 : Array (Option Value)}
    {dtn1 : Nat}
    {dk1_0 : Tok}
    {f2 : Addr}
    {od2 an2 : Option Addr}
    {sl2 : Array (Option Value)}
    {oc2 kV2 dc2 pm2 cd2 ct2 : Value}
    {f3 : Addr}
    {od3 an3 : Option Addr}
    {sl3 : Array (Option Value)}
    {oc3 kV3 dc3 pm3 cd3 ct3 : Value}
    {f4 : Addr}
    {od4 an4 : Option Addr}
    {sl4 : Array (Option Value)}
    {oc4 kV4 dc4 pm4 cd4 ct4 : Value}
    {f5 : Addr}
    {od5 an5 : Option Addr}
    {sl5 : Array (Option Value)}
    {oc5 kV5 dc5 pm5 cd5 ct5 : Value}
    {f6 : Addr}
    {od6 an6 : Option Addr}
    {sl6 : Array (Option Value)}
    {oc6 kV6 dc6 pm6 cd6 ct6 : Value}
    {f7 : Addr}
    {od7 an7 : Option Addr}
    {sl7 : Array (Option Value)}
    {oc7 kV7 dc7 pm7 cd7 ct7 : Value}
    {f8 : Addr}
    {od8 an8 : Option Addr}
    {sl8 : Array (Option Value)}
    {oc8 kV8 dc8 pm8 cd8 ct8 : Value}
    {f9 : Addr}
    {od9 an9 : Option Addr}
    {sl9 : Array (Option Value)}
    {oc9 kV9 dc9 pm9 cd9 ct9 : Value}
    {f10 : Addr}
    {od10 an10 : Option Addr}
    {sl10 : Array (Option Value)}
    {oc10 kV10 dc10 pm10 cd10 ct10 : Value}
    {f11 : Addr}
    {od11 an11 : Option Addr}
    {sl11 : Array (Option Value)}
    {oc11 kV11 dc11 pm11 cd11 ct11 : Value}
    {f12 : Addr}
    {od12 an12 : Option Addr}
    {sl12 : Array (Option Value)}
    {oc12 kV12 dc12 pm12 cd12 ct12 : Value}
    {f13 : Addr}
    {od13 an13 : Option Addr}
    {sl13 : Array (Option Value)}
    {oc13 kV13 dc13 pm13 cd13 ct13 : Value}
    {f14 : Addr}
    {od14 an14 : Option Addr}
    {sl14 : Array (Option Value)}
    {oc14 kV14 dc14 pm14 cd14 ct14 : Value}
    {f15 : Addr}
    {od15 an15 : Option Addr}
    {sl15 : Array (Option Value)}
    {oc15 kV15 dc15 pm15 cd15 ct15 : Value}
    {f16 : Addr}
    {od16 an16 : Option Addr}
    {sl16 : Array (Option Value)}
    {oc16 kV16 dc16 pm16 cd16 ct16 : Value}
    {f17 : Addr}
    {od17 an17 : Option Addr}
    {sl17 : Array (Option Value)}
    {oc17 kV17 dc17 pm17 cd17 ct17 : Value}
    {f18 : Addr}
    {od18 an18 : Option Addr}
    {sl18 : Array (Option Value)}
    {oc18 kV18 dc18 pm18 cd18 ct18 : Value}
    {f19 : Addr}
    {od19 an19 : Option Addr}
    {sl19 : Array (Option Value)}
    {oc19 kV19 dc19 pm19 cd19 ct19 : Value}
    {f20 : Addr}
    {od20 an20 : Option Addr}
    {sl20 : Array (Option Value)}
    {oc20 kV20 dc20 pm20 cd20 ct20 : Value}
    {f21 : Addr}
    {od21 an21 : Option Addr}
    {sl21 : Array (Option Value)}
    {oc21 kV21 dc21 pm21 cd21 ct21 : Value}
    {f22 : Addr}
    {od22 an22 : Option Addr}
    {sl22 : Array (Option Value)}
    {oc22 kV22 dc22 pm22 cd22 ct22 : Value}
    {f23 : Addr}
    {od23 an23 : Option Addr}
    {sl23 : Array (Option Value)}
    {oc23 kV23 dc23 pm23 cd23 ct23 : Value}
    {f24 : Addr}
    {od24 an24 : Option Addr}
    {sl24 : Array (Option Value)}
    {oc24 kV24 dc24 pm24 cd24 ct24 : Value}
    {f25 : Addr}
    {od25 an25 : Option Addr}
    {sl25 : Array (Option Value)}
    {oc25 kV25 dc25 pm25 cd25 ct25 : Value}
    {f26 : Addr}
    {od26 an26 : Option Addr}
    {sl26 : Array (Option Value)}
    {oc26 kV26 dc26 pm26 cd26 ct26 : Value}
    {f27 : Addr}
    {od27 an27 : Option Addr}
    {sl27 : Array (Option Value)}
    {oc27 kV27 dc27 pm27 cd27 ct27 : Value}
    {f28 : Addr}
    {od28 an28 : Option Addr}
    {sl28 : Array (Option Value)}
    {oc28 kV28 dc28 pm28 cd28 ct28 : Value}
    {Dd0 : Addr}
    {De0 : Array DictEntry}
    {Dn0 : Nat}
    {Dt0_0 : Tok}
    {Dt0_1 : Tok}
    {Dt0_2 : Tok}
    {Dt0_3 : Tok}
    {Dt0_4 : Tok}
    (h_aC0 : PySem.W.nsIn K mainGlobals ("Ratio" : Str) = some (some (.ref C0)))
    (h_a0 : PySem.W.nsIn K mainGlobals ("shared_part" : Str) = some (some (.ref f0)))
    (h_l0 : K.lookup f0 = some ⟨oc0, od0, .func (PySem.W.fnOf "shared_part" "shared_part" (defArgs s_shared_part) (defBody s_shared_part) (defScope s_shared_part) .none kV0 dc0 pm0 an0 cd0 ct0), sl0⟩)
    (h_c0 : PySem.W.codeIn K cd0 "shared_part" = true)
    (h_k0 : PySem.W.keepIn K (.ref f0) = true)
    (h_a1 : PySem.W.findIn K (.ref C0) ("__init__" : Str) = some (some (.ref f1)))
    (h_i1 : PySem.W.isFn K (.ref f1) = true)
    (h_l1 : K.lookup f1 = some ⟨oc1, od1, .func (PySem.W.fnOf "__init__" "Ratio.__init__" (defArgs s_Ratio___init__) (defBody s_Ratio___init__) (defScope s_Ratio___init__) (.ref dT1) kV1 dc1 pm1 an1 cd1 ct1), sl1⟩)
    (h_d1 : K.lookup dT1 = some ⟨dtc1, dto1, .seq ([Value.int 1 dk1_0] : List Value).toArray dtn1, dts1⟩)
    (h_c1 : PySem.W.codeIn K cd1 "Ratio.__init__" = true)
    (h_k1 : PySem.W.keepIn K (.ref f1) = true)
    (h_a2 : PySem.W.findIn K (.ref C0) ("__add__" : Str) = some (some (.ref f2)))
    (h_i2 : PySem.W.isFn K (.ref f2) = true)
    (h_l2 : K.lookup f2 = some ⟨oc2, od2, .func (PySem.W.fnOf "__add__" "Ratio.__add__" (defArgs s_Ratio___add__) (defBody s_Ratio___add__) (defScope s_Ratio___add__) .none kV2 dc2 pm2 an2 cd2 ct2), sl2⟩)
    (h_c2 : PySem.W.codeIn K cd2 "Ratio.__add__" = true)
    (h_k2 : PySem.W.keepIn K (.ref f2) = true)
    (h_a3 : PySem.W.findIn K (.ref C0) ("__sub__" : Str) = some (some (.ref f3)))
    (h_i3 : PySem.W.isFn K (.ref f3) = true)
    (h_l3 : K.lookup f3 = some ⟨oc3, od3, .func (PySem.W.fnOf "__sub__" "Ratio.__sub__" (defArgs s_Ratio___sub__) (defBody s_Ratio___sub__) (defScope s_Ratio___sub__) .none kV3 dc3 pm3 an3 cd3 ct3), sl3⟩)
    (h_c3 : PySem.W.codeIn K cd3 "Ratio.__sub__" = true)
    (h_k3 : PySem.W.keepIn K (.ref f3) = true)
    (h_a4 : PySem.W.findIn K (.ref C0) ("__mul__" : Str) = some (some (.ref f4)))
    (h_i4 : PySem.W.isFn K (.ref f4) = true)
    (h_l4 : K.lookup f4 = some ⟨oc4, od4, .func (PySem.W.fnOf "__mul__" "Ratio.__mul__" (defArgs s_Ratio___mul__) (defBody s_Ratio___mul__) (defScope s_Ratio___mul__) .none kV4 dc4 pm4 an4 cd4 ct4), sl4⟩)
    (h_c4 : PySem.W.codeIn K cd4 "Ratio.__mul__" = true)
    (h_k4 : PySem.W.keepIn K (.ref f4) = true)
    (h_a5 : PySem.W.findIn K (.ref C0) ("__neg__" : Str) = some (some (.ref f5)))
    (h_i5 : PySem.W.isFn K (.ref f5) = true)
    (h_l5 : K.lookup f5 = some ⟨oc5, od5, .func (PySem.W.fnOf "__neg__" "Ratio.__neg__" (defArgs s_Ratio___neg__) (defBody s_Ratio___neg__) (defScope s_Ratio___neg__) .none kV5 dc5 pm5 an5 cd5 ct5), sl5⟩)
    (h_c5 : PySem.W.codeIn K cd5 "Ratio.__neg__" = true)
    (h_k5 : PySem.W.keepIn K (.ref f5) = true)
    (h_a6 : PySem.W.findIn K (.ref C0) ("__eq__" : Str) = some (some (.ref f6)))
    (h_i6 : PySem.W.isFn K (.ref f6) = true)
    (h_l6 : K.lookup f6 = some ⟨oc6, od6, .func (PySem.W.fnOf "__eq__" "Ratio.__eq__" (defArgs s_Ratio___eq__) (defBody s_Ratio___eq__) (defScope s_Ratio___eq__) .none kV6 dc6 pm6 an6 cd6 ct6), sl6⟩)
    (h_c6 : PySem.W.codeIn K cd6 "Ratio.__eq__" = true)
    (h_k6 : PySem.W.keepIn K (.ref f6) = true)
    (h_a7 : PySem.W.findIn K (.ref C0) ("__bool__" : Str) = some (some (.ref f7)))
    (h_i7 : PySem.W.isFn K (.ref f7) = true)
    (h_l7 : K.lookup f7 = some ⟨oc7, od7, .func (PySem.W.fnOf "__bool__" "Ratio.__bool__" (defArgs s_Ratio___bool__) (defBody s_Ratio___bool__) (defScope s_Ratio___bool__) .none kV7 dc7 pm7 an7 cd7 ct7), sl7⟩)
    (h_c7 : PySem.W.codeIn K cd7 "Ratio.__bool__" = true)
    (h_k7 : PySem.W.keepIn K (.ref f7) = true)
    (h_a8 : PySem.W.findIn K (.ref C0) ("text" : Str) = some (some (.ref f8)))
    (h_i8 : PySem.W.isFn K (.ref f8) = true)
    (h_l8 : K.lookup f8 = some ⟨oc8, od8, .func (PySem.W.fnOf "text" "Ratio.text" (defArgs s_Ratio_text) (defBody s_Ratio_text) (defScope s_Ratio_text) .none kV8 dc8 pm8 an8 cd8 ct8), sl8⟩)
    (h_c8 : PySem.W.codeIn K cd8 "Ratio.text" = true)
    (h_k8 : PySem.W.keepIn K (.ref f8) = true)
    (h_a9 : PySem.W.nsIn K mainGlobals ("write_part" : Str) = some (some (.ref f9)))
    (h_l9 : K.lookup f9 = some ⟨oc9, od9, .func (PySem.W.fnOf "write_part" "write_part" (defArgs s_write_part) (defBody s_write_part) (defScope s_write_part) .none kV9 dc9 pm9 an9 cd9 ct9), sl9⟩)
    (h_c9 : PySem.W.codeIn K cd9 "write_part" = true)
    (h_k9 : PySem.W.keepIn K (.ref f9) = true)
    (h_a10 : PySem.W.nsIn K mainGlobals ("write_sum" : Str) = some (some (.ref f10)))
    (h_l10 : K.lookup f10 = some ⟨oc10, od10, .func (PySem.W.fnOf "write_sum" "write_sum" (defArgs s_write_sum) (defBody s_write_sum) (defScope s_write_sum) .none kV10 dc10 pm10 an10 cd10 ct10), sl10⟩)
    (h_c10 : PySem.W.codeIn K cd10 "write_sum" = true)
    (h_k10 : PySem.W.keepIn K (.ref f10) = true)
    (h_a11 : PySem.W.nsIn K mainGlobals ("_law_feed" : Str) = some (some (.ref f11)))
    (h_l11 : K.lookup f11 = some ⟨oc11, od11, .func (PySem.W.fnOf "_law_feed" "_law_feed" (defArgs s__law_feed) (defBody s__law_feed) (defScope s__law_feed) .none kV11 dc11 pm11 an11 cd11 ct11), sl11⟩)
    (h_c11 : PySem.W.codeIn K cd11 "_law_feed" = true)
    (h_k11 : PySem.W.keepIn K (.ref f11) = true)
    (h_a12 : PySem.W.nsIn K mainGlobals ("_law_draw" : Str) = some (some (.ref f12)))
    (h_l12 : K.lookup f12 = some ⟨oc12, od12, .func (PySem.W.fnOf "_law_draw" "_law_draw" (defArgs s__law_draw) (defBody s__law_draw) (defScope s__law_draw) .none kV12 dc12 pm12 an12 cd12 ct12), sl12⟩)
    (h_c12 : PySem.W.codeIn K cd12 "_law_draw" = true)
    (h_k12 : PySem.W.keepIn K (.ref f12) = true)
    (h_a13 : PySem.W.nsIn K mainGlobals ("_law_great" : Str) = some (some (.ref f13)))
    (h_l13 : K.lookup f13 = some ⟨oc13, od13, .func (PySem.W.fnOf "_law_great" "_law_great" (defArgs s__law_great) (defBody s__law_great) (defScope s__law_great) .none kV13 dc13 pm13 an13 cd13 ct13), sl13⟩)
    (h_c13 : PySem.W.codeIn K cd13 "_law_great" = true)
    (h_k13 : PySem.W.keepIn K (.ref f13) = true)
    (h_a14 : PySem.W.nsIn K mainGlobals ("_law_pair" : Str) = some (some (.ref f14)))
    (h_l14 : K.lookup f14 = some ⟨oc14, od14, .func (PySem.W.fnOf "_law_pair" "_law_pair" (defArgs s__law_pair) (defBody s__law_pair) (defScope s__law_pair) .none kV14 dc14 pm14 an14 cd14 ct14), sl14⟩)
    (h_c14 : PySem.W.codeIn K cd14 "_law_pair" = true)
    (h_k14 : PySem.W.keepIn K (.ref f14) = true)
    (h_a15 : PySem.W.nsIn K mainGlobals ("_law_is_integer" : Str) = some (some (.ref f15)))
    (h_l15 : K.lookup f15 = some ⟨oc15, od15, .func (PySem.W.fnOf "_law_is_integer" "_law_is_integer" (defArgs s__law_is_integer) (defBody s__law_is_integer) (defScope s__law_is_integer) .none kV15 dc15 pm15 an15 cd15 ct15), sl15⟩)
    (h_c15 : PySem.W.codeIn K cd15 "_law_is_integer" = true)
    (h_k15 : PySem.W.keepIn K (.ref f15) = true)
    (h_a16 : PySem.W.nsIn K mainGlobals ("_law_same" : Str) = some (some (.ref f16)))
    (h_l16 : K.lookup f16 = some ⟨oc16, od16, .func (PySem.W.fnOf "_law_same" "_law_same" (defArgs s__law_same) (defBody s__law_same) (defScope s__law_same) .none kV16 dc16 pm16 an16 cd16 ct16), sl16⟩)
    (h_c16 : PySem.W.codeIn K cd16 "_law_same" = true)
    (h_k16 : PySem.W.keepIn K (.ref f16) = true)
    (h_a17 : PySem.W.nsIn K mainGlobals ("_law_leaf" : Str) = some (some (.ref f17)))
    (h_l17 : K.lookup f17 = some ⟨oc17, od17, .func (PySem.W.fnOf "_law_leaf" "_law_leaf" (defArgs s__law_leaf) (defBody s__law_leaf) (defScope s__law_leaf) .none kV17 dc17 pm17 an17 cd17 ct17), sl17⟩)
    (h_c17 : PySem.W.codeIn K cd17 "_law_leaf" = true)
    (h_k17 : PySem.W.keepIn K (.ref f17) = true)
    (h_a18 : PySem.W.nsIn K mainGlobals ("_law_joined" : Str) = some (some (.ref f18)))
    (h_l18 : K.lookup f18 = some ⟨oc18, od18, .func (PySem.W.fnOf "_law_joined" "_law_joined" (defArgs s__law_joined) (defBody s__law_joined) (defScope s__law_joined) .none kV18 dc18 pm18 an18 cd18 ct18), sl18⟩)
    (h_c18 : PySem.W.codeIn K cd18 "_law_joined" = true)
    (h_k18 : PySem.W.keepIn K (.ref f18) = true)
    (h_a19 : PySem.W.nsIn K mainGlobals ("_law_bush" : Str) = some (some (.ref f19)))
    (h_l19 : K.lookup f19 = some ⟨oc19, od19, .func (PySem.W.fnOf "_law_bush" "_law_bush" (defArgs s__law_bush) (defBody s__law_bush) (defScope s__law_bush) .none kV19 dc19 pm19 an19 cd19 ct19), sl19⟩)
    (h_c19 : PySem.W.codeIn K cd19 "_law_bush" = true)
    (h_k19 : PySem.W.keepIn K (.ref f19) = true)
    (h_a20 : PySem.W.nsIn K mainGlobals ("_law_chain" : Str) = some (some (.ref f20)))
    (h_l20 : K.lookup f20 = some ⟨oc20, od20, .func (PySem.W.fnOf "_law_chain" "_law_chain" (defArgs s__law_chain) (defBody s__law_chain) (defScope s__law_chain) .none kV20 dc20 pm20 an20 cd20 ct20), sl20⟩)
    (h_c20 : PySem.W.codeIn K cd20 "_law_chain" = true)
    (h_k20 : PySem.W.keepIn K (.ref f20) = true)
    (h_a21 : PySem.W.nsIn K mainGlobals ("_law_wide_term" : Str) = some (some (.ref f21)))
    (h_l21 : K.lookup f21 = some ⟨oc21, od21, .func (PySem.W.fnOf "_law_wide_term" "_law_wide_term" (defArgs s__law_wide_term) (defBody s__law_wide_term) (defScope s__law_wide_term) .none kV21 dc21 pm21 an21 cd21 ct21), sl21⟩)
    (h_c21 : PySem.W.codeIn K cd21 "_law_wide_term" = true)
    (h_k21 : PySem.W.keepIn K (.ref f21) = true)
    (h_a22 : PySem.W.nsIn K mainGlobals ("_law_term" : Str) = some (some (.ref f22)))
    (h_l22 : K.lookup f22 = some ⟨oc22, od22, .func (PySem.W.fnOf "_law_term" "_law_term" (defArgs s__law_term) (defBody s__law_term) (defScope s__law_term) .none kV22 dc22 pm22 an22 cd22 ct22), sl22⟩)
    (h_c22 : PySem.W.codeIn K cd22 "_law_term" = true)
    (h_k22 : PySem.W.keepIn K (.ref f22) = true)
    (h_a23 : PySem.W.nsIn K mainGlobals ("_law_made" : Str) = some (some (.ref f23)))
    (h_l23 : K.lookup f23 = some ⟨oc23, od23, .func (PySem.W.fnOf "_law_made" "_law_made" (defArgs s__law_made) (defBody s__law_made) (defScope s__law_made) .none kV23 dc23 pm23 an23 cd23 ct23), sl23⟩)
    (h_c23 : PySem.W.codeIn K cd23 "_law_made" = true)
    (h_k23 : PySem.W.keepIn K (.ref f23) = true)
    (h_a24 : PySem.W.nsIn K mainGlobals ("_law_text" : Str) = some (some (.ref f24)))
    (h_l24 : K.lookup f24 = some ⟨oc24, od24, .func (PySem.W.fnOf "_law_text" "_law_text" (defArgs s__law_text) (defBody s__law_text) (defScope s__law_text) .none kV24 dc24 pm24 an24 cd24 ct24), sl24⟩)
    (h_c24 : PySem.W.codeIn K cd24 "_law_text" = true)
    (h_k24 : PySem.W.keepIn K (.ref f24) = true)
    (h_a25 : PySem.W.nsIn K mainGlobals ("_law_part" : Str) = some (some (.ref f25)))
    (h_l25 : K.lookup f25 = some ⟨oc25, od25, .func (PySem.W.fnOf "_law_part" "_law_part" (defArgs s__law_part) (defBody s__law_part) (defScope s__law_part) .none kV25 dc25 pm25 an25 cd25 ct25), sl25⟩)
    (h_c25 : PySem.W.codeIn K cd25 "_law_part" = true)
    (h_k25 : PySem.W.keepIn K (.ref f25) = true)
    (h_a26 : PySem.W.nsIn K mainGlobals ("_law_write" : Str) = some (some (.ref f26)))
    (h_l26 : K.lookup f26 = some ⟨oc26, od26, .func (PySem.W.fnOf "_law_write" "_law_write" (defArgs s__law_write) (defBody s__law_write) (defScope s__law_write) .none kV26 dc26 pm26 an26 cd26 ct26), sl26⟩)
    (h_c26 : PySem.W.codeIn K cd26 "_law_write" = true)
    (h_k26 : PySem.W.keepIn K (.ref f26) = true)
    (h_a27 : PySem.W.nsIn K mainGlobals ("_law_same_term" : Str) = some (some (.ref f27)))
    (h_l27 : K.lookup f27 = some ⟨oc27, od27, .func (PySem.W.fnOf "_law_same_term" "_law_same_term" (defArgs s__law_same_term) (defBody s__law_same_term) (defScope s__law_same_term) .none kV27 dc27 pm27 an27 cd27 ct27), sl27⟩)
    (h_c27 : PySem.W.codeIn K cd27 "_law_same_term" = true)
    (h_k27 : PySem.W.keepIn K (.ref f27) = true)
    (h_a28 : PySem.W.nsIn K mainGlobals ("law" : Str) = some (some (.ref f28)))
    (h_l28 : K.lookup f28 = some ⟨oc28, od28, .func (PySem.W.fnOf "law" "law" (defArgs s_law) (defBody s_law) (defScope s_law) .none kV28 dc28 pm28 an28 cd28 ct28), sl28⟩)
    (h_c28 : PySem.W.codeIn K cd28 "law" = true)
    (h_k28 : PySem.W.keepIn K (.ref f28) = true)
    (h_pg_0 : PySem.W.plainGet K C0 Str.empty = true)
    (h_hd_0 : PySem.W.hasDictIn K C0 = true)
    (h_po_0 : PySem.W.plainOver K C0 = true)
    (h_sa_0 : PySem.W.findIn K (.ref C0) "__setattr__" = some (some (.builtin "object.__setattr__")))
    (h_mk_0 : PySem.W.makesIn K C0 = true)
    (h_kc_0 : PySem.W.keepIn K (.ref C0) = true)
    (h_ta_0 : PySem.W.findIn K (.ref C0) "__class__" = some (some (.builtin "object.__class__")))
    (h_td_0 : PySem.W.mroIn K C0 (.type "object") = some true)
    (h_sf_0 : PySem.W.selfFirst K C0 = true)
    (h_n_0_top : PySem.W.findIn K (.ref C0) ("top" : Str) = some none)
    (h_n_0_bottom : PySem.W.findIn K (.ref C0) ("bottom" : Str) = some none)
    (h_ic_0_0 : PySem.W.kitOne K (.ref C0) (.ref C0) = some (SG.sub 0 0))
    (h_ib_0_NoneType : PySem.W.kitOne K (.type "NoneType") (.ref C0) = some false)
    (h_it_0_NoneType : PySem.W.kitOne K (.ref C0) (.type "NoneType") = some false)
    (h_ib_0_bool : PySem.W.kitOne K (.type "bool") (.ref C0) = some false)
    (h_it_0_bool : PySem.W.kitOne K (.ref C0) (.type "bool") = some false)
    (h_ib_0_int : PySem.W.kitOne K (.type "int") (.ref C0) = some false)
    (h_it_0_int : PySem.W.kitOne K (.ref C0) (.type "int") = some false)
    (h_ib_0_str : PySem.W.kitOne K (.type "str") (.ref C0) = some false)
    (h_it_0_str : PySem.W.kitOne K (.ref C0) (.type "str") = some false)
    (h_ib_0_tuple : PySem.W.kitOne K (.type "tuple") (.ref C0) = some false)
    (h_it_0_tuple : PySem.W.kitOne K (.ref C0) (.type "tuple") = some false)
    (h_ib_0_list : PySem.W.kitOne K (.type "list") (.ref C0) = some false)
    (h_it_0_list : PySem.W.kitOne K (.ref C0) (.type "list") = some false)
    (h_ib_0_dict : PySem.W.kitOne K (.type "dict") (.ref C0) = some false)
    (h_it_0_dict : PySem.W.kitOne K (.ref C0) (.type "dict") = some false)
    (h_tb : PySem.W.specialIn K (.builtin "object.__class__") "__get__" = some (some (.builtin "getset_descriptor.__get__")))
    (h_tc : PySem.W.takesIn K (.builtin "object.__class__") = some true)
    (h_tree : l.prog.given.tree = none)
    (h_z_abs : PySem.W.nsIn K mainGlobals ("abs" : Str) = some none)
    (h_z_bool : PySem.W.nsIn K mainGlobals ("bool" : Str) = some none)
    (h_z_int : PySem.W.nsIn K mainGlobals ("int" : Str) = some none)
    (h_z_isinstance : PySem.W.nsIn K mainGlobals ("isinstance" : Str) = some none)
    (h_z_len : PySem.W.nsIn K mainGlobals ("len" : Str) = some none)
    (h_z_max : PySem.W.nsIn K mainGlobals ("max" : Str) = some none)
    (h_z_range : PySem.W.nsIn K mainGlobals ("range" : Str) = some none)
    (h_z_str : PySem.W.nsIn K mainGlobals ("str" : Str) = some none)
    (h_z_tuple : PySem.W.nsIn K mainGlobals ("tuple" : Str) = some none)
    (h_da0 : PySem.W.nsIn K mainGlobals ("LEVELS" : Str) = some (some (.ref Dd0)))
    (h_dl0 : K.lookup Dd0 = some ⟨.type "dict", none, .dict De0 Dn0, #[]⟩)
    (h_dw0 : De0.toList.map He.keyOf = He.keysIn w.params [("plus" : Str), ("row" : Str), ("star" : Str), ("number" : Str), ("letter" : Str)])
    (h_dv0_0 : PySem.W.nsIn K Dd0 ("plus" : Str) = some (some (Value.int 0 Dt0_0)))
    (h_dv0_1 : PySem.W.nsIn K Dd0 ("row" : Str) = some (some (Value.int 1 Dt0_1)))
    (h_dv0_2 : PySem.W.nsIn K Dd0 ("star" : Str) = some (some (Value.int 2 Dt0_2)))
    (h_dv0_3 : PySem.W.nsIn K Dd0 ("number" : Str) = some (some (Value.int 3 Dt0_3)))
    (h_dv0_4 : PySem.W.nsIn K Dd0 ("letter" : Str) = some (some (Value.int 3 Dt0_4)))
    : ∃ fd : FuncData, (∀ (s : Shared) (u : Value), BindsTo s fd ⟨[u], []⟩ [("script", u)]) ∧ ∀ base : Heap, K.In base → base.Ns mainGlobals mg → base.NoSeer → ∃ G XG : Nat → Option Addr, FnOk l.prog w K mg base (L2.CX l.prog w) 191 fa fd ["script"] (spOf ((Jn.mk SG G XG none).inf K) (FT 150) i_law 1) := by
  have ef : f28 = fa := by
    have e := hfa.symm.trans (PySem.W.mg_of X GG h_a28)
    cases e
    rfl
  subst ef
  have F0 := fun_mk (st := s_shared_part) h_l0 h_c0 h_k0
  have b0 := F0.binds (ps := [("one" : Str), ("other" : Str)]) fun _ _ _ _ _ _ us hl => match us, hl with | [_, _], _ => rfl
  have F1 : FunD K "__init__" "Ratio.__init__" (defArgs s_Ratio___init__) (defBody s_Ratio___init__) (defScope s_Ratio___init__) [V.int 1] [] f1 _ := ⟨⟨_, _, _, _, _, _, _, _, _, _, rfl, h_l1, h_c1, .inr ⟨by simp, dT1, _, _, _, rfl, h_d1, rfl, (.cons ⟨_, rfl⟩ .nil)⟩, .inl rfl⟩, h_k1⟩
  have F2 := fun_mk (st := s_Ratio___add__) h_l2 h_c2 h_k2
  have b2 := F2.binds (ps := [("self" : Str), ("other" : Str)]) fun _ _ _ _ _ _ us hl => match us, hl with | [_, _], _ => rfl
  have F3 := fun_mk (st := s_Ratio___sub__) h_l3 h_c3 h_k3
  have b3 := F3.binds (ps := [("self" : Str), ("other" : Str)]) fun _ _ _ _ _ _ us hl => match us, hl with | [_, _], _ => rfl
  have F4 := fun_mk (st := s_Ratio___mul__) h_l4 h_c4 h_k4
  have b4 := F4.binds (ps := [("self" : Str), ("other" : Str)]) fun _ _ _ _ _ _ us hl => match us, hl with | [_, _], _ => rfl
  have F5 := fun_mk (st := s_Ratio___neg__) h_l5 h_c5 h_k5
  have b5 := F5.binds (ps := [("self" : Str)]) fun _ _ _ _ _ _ us hl => match us, hl with | [_], _ => rfl
  have F6 := fun_mk (st := s_Ratio___eq__) h_l6 h_c6 h_k6
  have b6 := F6.binds (ps := [("self" : Str), ("other" : Str)]) fun _ _ _ _ _ _ us hl => match us, hl with | [_, _], _ => rfl
  have F7 := fun_mk (st := s_Ratio___bool__) h_l7 h_c7 h_k7
  have b7 := F7.binds (ps := [("self" : Str)]) fun _ _ _ _ _ _ us hl => match us, hl with | [_], _ => rfl
  have F8 := fun_mk (st := s_Ratio_text) h_l8 h_c8 h_k8
  have b8 := F8.binds (ps := [("self" : Str)]) fun _ _ _ _ _ _ us hl => match us, hl with | [_], _ => rfl
  have F9 := fun_mk (st := s_write_part) h_l9 h_c9 h_k9
  have b9 := F9.binds (ps := [("term" : Str), ("least" : Str)]) fun _ _ _ _ _ _ us hl => match us, hl with | [_, _], _ => rfl
  have F10 := fun_mk (st := s_write_sum) h_l10 h_c10 h_k10
  have b10 := F10.binds (ps := [("term" : Str)]) fun _ _ _ _ _ _ us hl => match us, hl with | [_], _ => rfl
  have F11 := fun_mk (st := s__law_feed) h_l11 h_c11 h_k11
  have b11 := F11.binds (ps := [("script" : Str)]) fun _ _ _ _ _ _ us hl => match us, hl with | [_], _ => rfl
  have F12 := fun_mk (st := s__law_draw) h_l12 h_c12 h_k12
  have b12 := F12.binds (ps := [("feed" : Str), ("limit" : Str)]) fun _ _ _ _ _ _ us hl => match us, hl with | [_, _], _ => rfl
  have F13 := fun_mk (st := s__law_great) h_l13 h_c13 h_k13
  have b13 := F13.binds (ps := [("feed" : Str), ("parts" : Str)]) fun _ _ _ _ _ _ us hl => match us, hl with | [_, _], _ => rfl
  have F14 := fun_mk (st := s__law_pair) h_l14 h_c14 h_k14
  have b14 := F14.binds (ps := [("above" : Str), ("below" : Str)]) fun _ _ _ _ _ _ us hl => match us, hl with | [_, _], _ => rfl
  have F15 := fun_mk (st := s__law_is_integer) h_l15 h_c15 h_k15
  have b15 := F15.binds (ps := [("actual" : Str)]) fun _ _ _ _ _ _ us hl => match us, hl with | [_], _ => rfl
  have F16 := fun_mk (st := s__law_same) h_l16 h_c16 h_k16
  have b16 := F16.binds (ps := [("actual" : Str), ("due" : Str)]) fun _ _ _ _ _ _ us hl => match us, hl with | [_, _], _ => rfl
  have F17 := fun_mk (st := s__law_leaf) h_l17 h_c17 h_k17
  have b17 := F17.binds (ps := [("feed" : Str), ("wide" : Str)]) fun _ _ _ _ _ _ us hl => match us, hl with | [_, _], _ => rfl
  have F18 := fun_mk (st := s__law_joined) h_l18 h_c18 h_k18
  have b18 := F18.binds (ps := [("feed" : Str), ("one" : Str), ("two" : Str)]) fun _ _ _ _ _ _ us hl => match us, hl with | [_, _, _], _ => rfl
  have F19 := fun_mk (st := s__law_bush) h_l19 h_c19 h_k19
  have b19 := F19.binds (ps := [("feed" : Str), ("wide" : Str)]) fun _ _ _ _ _ _ us hl => match us, hl with | [_, _], _ => rfl
  have F20 := fun_mk (st := s__law_chain) h_l20 h_c20 h_k20
  have b20 := F20.binds (ps := [("feed" : Str), ("wide" : Str), ("many" : Str)]) fun _ _ _ _ _ _ us hl => match us, hl with | [_, _, _], _ => rfl
  have F21 := fun_mk (st := s__law_wide_term) h_l21 h_c21 h_k21
  have b21 := F21.binds (ps := [("feed" : Str), ("wide" : Str)]) fun _ _ _ _ _ _ us hl => match us, hl with | [_, _], _ => rfl
  have F22 := fun_mk (st := s__law_term) h_l22 h_c22 h_k22
  have b22 := F22.binds (ps := [("feed" : Str)]) fun _ _ _ _ _ _ us hl => match us, hl with | [_], _ => rfl
  have F23 := fun_mk (st := s__law_made) h_l23 h_c23 h_k23
  have b23 := F23.binds (ps := [("term" : Str)]) fun _ _ _ _ _ _ us hl => match us, hl with | [_], _ => rfl
  have F24 := fun_mk (st := s__law_text) h_l24 h_c24 h_k24
  have b24 := F24.binds (ps := [("one" : Str)]) fun _ _ _ _ _ _ us hl => match us, hl with | [_], _ => rfl
  have F25 := fun_mk (st := s__law_part) h_l25 h_c25 h_k25
  have b25 := F25.binds (ps := [("term" : Str), ("barred" : Str)]) fun _ _ _ _ _ _ us hl => match us, hl with | [_, _], _ => rfl
  have F26 := fun_mk (st := s__law_write) h_l26 h_c26 h_k26
  have b26 := F26.binds (ps := [("term" : Str)]) fun _ _ _ _ _ _ us hl => match us, hl with | [_], _ => rfl
  have F27 := fun_mk (st := s__law_same_term) h_l27 h_c27 h_k27
  have b27 := F27.binds (ps := [("actual" : Str), ("due" : Str)]) fun _ _ _ _ _ _ us hl => match us, hl with | [_, _], _ => rfl
  have F28 := fun_mk (st := s_law) h_l28 h_c28 h_k28
  have b28 := F28.binds (ps := [("script" : Str)]) fun _ _ _ _ _ _ us hl => match us, hl with | [_], _ => rfl
  let loc : Nat → Option Py.Loc := fun f => ([(0, ⟨f0, (PySem.W.fnOf "shared_part" "shared_part" (defArgs s_shared_part) (defBody s_shared_part) (defScope s_shared_part) .none kV0 dc0 pm0 an0 cd0 ct0), [("one" : Str), ("other" : Str)]⟩), (1, ⟨f1, (PySem.W.fnOf "__init__" "Ratio.__init__" (defArgs s_Ratio___init__) (defBody s_Ratio___init__) (defScope s_Ratio___init__) (.ref dT1) kV1 dc1 pm1 an1 cd1 ct1), [("self" : Str), ("top" : Str), ("bottom" : Str)]⟩), (2, ⟨f2, (PySem.W.fnOf "__add__" "Ratio.__add__" (defArgs s_Ratio___add__) (defBody s_Ratio___add__) (defScope s_Ratio___add__) .none kV2 dc2 pm2 an2 cd2 ct2), [("self" : Str), ("other" : Str)]⟩), (3, ⟨f3, (PySem.W.fnOf "__sub__" "Ratio.__sub__" (defArgs s_Ratio___sub__) (defBody s_Ratio___sub__) (defScope s_Ratio___sub__) .none kV3 dc3 pm3 an3 cd3 ct3), [("self" : Str), ("other" : Str)]⟩), (4, ⟨f4, (PySem.W.fnOf "__mul__" "Ratio.__mul__" (defArgs s_Ratio___mul__) (defBody s_Ratio___mul__) (defScope s_Ratio___mul__) .none kV4 dc4 pm4 an4 cd4 ct4), [("self" : Str), ("other" : Str)]⟩), (5, ⟨f5, (PySem.W.fnOf "__neg__" "Ratio.__neg__" (defArgs s_Ratio___neg__) (defBody s_Ratio___neg__) (defScope s_Ratio___neg__) .none kV5 dc5 pm5 an5 cd5 ct5), [("self" : Str)]⟩), (6, ⟨f6, (PySem.W.fnOf "__eq__" "Ratio.__eq__" (defArgs s_Ratio___eq__) (defBody s_Ratio___eq__) (defScope s_Ratio___eq__) .none kV6 dc6 pm6 an6 cd6 ct6), [("self" : Str), ("other" : Str)]⟩), (7, ⟨f7, (PySem.W.fnOf "__bool__" "Ratio.__bool__" (defArgs s_Ratio___bool__) (defBody s_Ratio___bool__) (defScope s_Ratio___bool__) .none kV7 dc7 pm7 an7 cd7 ct7), [("self" : Str)]⟩), (8, ⟨f8, (PySem.W.fnOf "text" "Ratio.text" (defArgs s_Ratio_text) (defBody s_Ratio_text) (defScope s_Ratio_text) .none kV8 dc8 pm8 an8 cd8 ct8), [("self" : Str)]⟩), (9, ⟨f9, (PySem.W.fnOf "write_part" "write_part" (defArgs s_write_part) (defBody s_write_part) (defScope s_write_part) .none kV9 dc9 pm9 an9 cd9 ct9), [("term" : Str), ("least" : Str)]⟩), (10, ⟨f10, (PySem.W.fnOf "write_sum" "write_sum" (defArgs s_write_sum) (defBody s_write_sum) (defScope s_write_sum) .none kV10 dc10 pm10 an10 cd10 ct10), [("term" : Str)]⟩), (11, ⟨f11, (PySem.W.fnOf "_law_feed" "_law_feed" (defArgs s__law_feed) (defBody s__law_feed) (defScope s__law_feed) .none kV11 dc11 pm11 an11 cd11 ct11), [("script" : Str)]⟩), (12, ⟨f12, (PySem.W.fnOf "_law_draw" "_law_draw" (defArgs s__law_draw) (defBody s__law_draw) (defScope s__law_draw) .none kV12 dc12 pm12 an12 cd12 ct12), [("feed" : Str), ("limit" : Str)]⟩), (13, ⟨f13, (PySem.W.fnOf "_law_great" "_law_great" (defArgs s__law_great) (defBody s__law_great) (defScope s__law_great) .none kV13 dc13 pm13 an13 cd13 ct13), [("feed" : Str), ("parts" : Str)]⟩), (14, ⟨f14, (PySem.W.fnOf "_law_pair" "_law_pair" (defArgs s__law_pair) (defBody s__law_pair) (defScope s__law_pair) .none kV14 dc14 pm14 an14 cd14 ct14), [("above" : Str), ("below" : Str)]⟩), (15, ⟨f15, (PySem.W.fnOf "_law_is_integer" "_law_is_integer" (defArgs s__law_is_integer) (defBody s__law_is_integer) (defScope s__law_is_integer) .none kV15 dc15 pm15 an15 cd15 ct15), [("actual" : Str)]⟩), (16, ⟨f16, (PySem.W.fnOf "_law_same" "_law_same" (defArgs s__law_same) (defBody s__law_same) (defScope s__law_same) .none kV16 dc16 pm16 an16 cd16 ct16), [("actual" : Str), ("due" : Str)]⟩), (17, ⟨f17, (PySem.W.fnOf "_law_leaf" "_law_leaf" (defArgs s__law_leaf) (defBody s__law_leaf) (defScope s__law_leaf) .none kV17 dc17 pm17 an17 cd17 ct17), [("feed" : Str), ("wide" : Str)]⟩), (18, ⟨f18, (PySem.W.fnOf "_law_joined" "_law_joined" (defArgs s__law_joined) (defBody s__law_joined) (defScope s__law_joined) .none kV18 dc18 pm18 an18 cd18 ct18), [("feed" : Str), ("one" : Str), ("two" : Str)]⟩), (19, ⟨f19, (PySem.W.fnOf "_law_bush" "_law_bush" (defArgs s__law_bush) (defBody s__law_bush) (defScope s__law_bush) .none kV19 dc19 pm19 an19 cd19 ct19), [("feed" : Str), ("wide" : Str)]⟩), (20, ⟨f20, (PySem.W.fnOf "_law_chain" "_law_chain" (defArgs s__law_chain) (defBody s__law_chain) (defScope s__law_chain) .none kV20 dc20 pm20 an20 cd20 ct20), [("feed" : Str), ("wide" : Str), ("many" : Str)]⟩), (21, ⟨f21, (PySem.W.fnOf "_law_wide_term" "_law_wide_term" (defArgs s__law_wide_term) (defBody s__law_wide_term) (defScope s__law_wide_term) .none kV21 dc21 pm21 an21 cd21 ct21), [("feed" : Str), ("wide" : Str)]⟩), (22, ⟨f22, (PySem.W.fnOf "_law_term" "_law_term" (defArgs s__law_term) (defBody s__law_term) (defScope s__law_term) .none kV22 dc22 pm22 an22 cd22 ct22), [("feed" : Str)]⟩), (23, ⟨f23, (PySem.W.fnOf "_law_made" "_law_made" (defArgs s__law_made) (defBody s__law_made) (defScope s__law_made) .none kV23 dc23 pm23 an23 cd23 ct23), [("term" : Str)]⟩), (24, ⟨f24, (PySem.W.fnOf "_law_text" "_law_text" (defArgs s__law_text) (defBody s__law_text) (defScope s__law_text) .none kV24 dc24 pm24 an24 cd24 ct24), [("one" : Str)]⟩), (25, ⟨f25, (PySem.W.fnOf "_law_part" "_law_part" (defArgs s__law_part) (defBody s__law_part) (defScope s__law_part) .none kV25 dc25 pm25 an25 cd25 ct25), [("term" : Str), ("barred" : Str)]⟩), (26, ⟨f26, (PySem.W.fnOf "_law_write" "_law_write" (defArgs s__law_write) (defBody s__law_write) (defScope s__law_write) .none kV26 dc26 pm26 an26 cd26 ct26), [("term" : Str)]⟩), (27, ⟨f27, (PySem.W.fnOf "_law_same_term" "_law_same_term" (defArgs s__law_same_term) (defBody s__law_same_term) (defScope s__law_same_term) .none kV27 dc27 pm27 an27 cd27 ct27), [("actual" : Str), ("due" : Str)]⟩), (28, ⟨f28, (PySem.W.fnOf "law" "law" (defArgs s_law) (defBody s_law) (defScope s_law) .none kV28 dc28 pm28 an28 cd28 ct28), [("script" : Str)]⟩)] : List (Nat × Py.Loc)).lookup f
  let ar : Nat → Nat := fun f => (([(0, 2), (1, 3), (2, 2), (3, 2), (4, 2), (5, 1), (6, 2), (7, 1), (8, 1), (9, 2), (10, 1), (11, 1), (12, 2), (13, 2), (14, 2), (15, 1), (16, 2), (17, 2), (18, 3), (19, 2), (20, 3), (21, 2), (22, 1), (23, 1), (24, 1), (25, 2), (26, 1), (27, 2), (28, 1)] : List (Nat × Nat)).lookup f).getD 0
  let G : Nat → Option Addr := fun c => ([(0, C0)] : List (Nat × Addr)).lookup c
  let XG : Nat → Option Addr := fun c => ([] : List (Nat × Addr)).lookup c
  have st : ∀ base : Heap, base.NoSeer → Stat (Jn.mk SG G XG none) l.prog w K mg base loc ar := fun base see => {
    seer := see
    tree := h_tree
    len := lk_all (all_cons (rfl) (all_cons (rfl) (all_cons (rfl) (all_cons (rfl) (all_cons (rfl) (all_cons (rfl) (all_cons (rfl) (all_cons (rfl) (all_cons (rfl) (all_cons (rfl) (all_cons (rfl) (all_cons (rfl) (all_cons (rfl) (all_cons (rfl) (all_cons (rfl) (all_cons (rfl) (all_cons (rfl) (all_cons (rfl) (all_cons (rfl) (all_cons (rfl) (all_cons (rfl) (all_cons (rfl) (all_cons (rfl) (all_cons (rfl) (all_cons (rfl) (all_cons (rfl) (all_cons (rfl) (all_cons (rfl) (all_cons (rfl) all_nil)))))))))))))))))))))))))))))
    call := fun f x n e => lk_all (L := L_nm) (P := fun f (v : Str × Nat) => ∃ l, loc f = some l ∧ ar f = v.2 ∧ mg v.1 = some (.ref l.fa) ∧ PySem.W.keepIn K (.ref l.fa) = true ∧ Binds K l.fd l.ps []) (all_cons (⟨_, rfl, rfl, PySem.W.mg_of X GG h_a0, h_k0, b0⟩) (all_cons (⟨_, rfl, rfl, PySem.W.mg_of X GG h_a9, h_k9, b9⟩) (all_cons (⟨_, rfl, rfl, PySem.W.mg_of X GG h_a10, h_k10, b10⟩) (all_cons (⟨_, rfl, rfl, PySem.W.mg_of X GG h_a11, h_k11, b11⟩) (all_cons (⟨_, rfl, rfl, PySem.W.mg_of X GG h_a12, h_k12, b12⟩) (all_cons (⟨_, rfl, rfl, PySem.W.mg_of X GG h_a13, h_k13, b13⟩) (all_cons (⟨_, rfl, rfl, PySem.W.mg_of X GG h_a14, h_k14, b14⟩) (all_cons (⟨_, rfl, rfl, PySem.W.mg_of X GG h_a15, h_k15, b15⟩) (all_cons (⟨_, rfl, rfl, PySem.W.mg_of X GG h_a16, h_k16, b16⟩) (all_cons (⟨_, rfl, rfl, PySem.W.mg_of X GG h_a17, h_k17, b17⟩) (all_cons (⟨_, rfl, rfl, PySem.W.mg_of X GG h_a18, h_k18, b18⟩) (all_cons (⟨_, rfl, rfl, PySem.W.mg_of X GG h_a19, h_k19, b19⟩) (all_cons (⟨_, rfl, rfl, PySem.W.mg_of X GG h_a20, h_k20, b20⟩) (all_cons (⟨_, rfl, rfl, PySem.W.mg_of X GG h_a21, h_k21, b21⟩) (all_cons (⟨_, rfl, rfl, PySem.W.mg_of X GG h_a22, h_k22, b22⟩) (all_cons (⟨_, rfl, rfl, PySem.W.mg_of X GG h_a23, h_k23, b23⟩) (all_cons (⟨_, rfl, rfl, PySem.W.mg_of X GG h_a24, h_k24, b24⟩) (all_cons (⟨_, rfl, rfl, PySem.W.mg_of X GG h_a25, h_k25, b25⟩) (all_cons (⟨_, rfl, rfl, PySem.W.mg_of X GG h_a26, h_k26, b26⟩) (all_cons (⟨_, rfl, rfl, PySem.W.mg_of X GG h_a27, h_k27, b27⟩) (all_cons (⟨_, rfl, rfl, PySem.W.mg_of X GG h_a28, h_k28, b28⟩) all_nil))))))))))))))))))))) f (x, n) e
    meth := fun f c m n e => lk_all (L := L_mt) (P := fun f (v : Nat × Str × Nat) => ∃ C l, loc f = some l ∧ ar f = v.2.2 ∧ G v.1 = some C ∧ Meth K C v.2.1 l.fa ∧ Binds K l.fd l.ps []) (all_cons (⟨_, _, rfl, rfl, rfl, ⟨h_a2, h_i2, h_k2⟩, b2⟩) (all_cons (⟨_, _, rfl, rfl, rfl, ⟨h_a3, h_i3, h_k3⟩, b3⟩) (all_cons (⟨_, _, rfl, rfl, rfl, ⟨h_a4, h_i4, h_k4⟩, b4⟩) (all_cons (⟨_, _, rfl, rfl, rfl, ⟨h_a5, h_i5, h_k5⟩, b5⟩) (all_cons (⟨_, _, rfl, rfl, rfl, ⟨h_a6, h_i6, h_k6⟩, b6⟩) (all_cons (⟨_, _, rfl, rfl, rfl, ⟨h_a7, h_i7, h_k7⟩, b7⟩) (all_cons (⟨_, _, rfl, rfl, rfl, ⟨h_a8, h_i8, h_k8⟩, b8⟩) all_nil))))))) f (c, m, n) e
    fi := fun f c m n e => lk_all (L := L_mt) (P := fun f (v : Nat × Str × Nat) => ∃ (C fa : Addr), G v.1 = some C ∧ Meth K C v.2.1 fa ∧ PySem.W.fnIn K fa = true) (all_cons (⟨_, _, rfl, ⟨h_a2, h_i2, h_k2⟩, by unfold PySem.W.fnIn; rw [h_l2]⟩) (all_cons (⟨_, _, rfl, ⟨h_a3, h_i3, h_k3⟩, by unfold PySem.W.fnIn; rw [h_l3]⟩) (all_cons (⟨_, _, rfl, ⟨h_a4, h_i4, h_k4⟩, by unfold PySem.W.fnIn; rw [h_l4]⟩) (all_cons (⟨_, _, rfl, ⟨h_a5, h_i5, h_k5⟩, by unfold PySem.W.fnIn; rw [h_l5]⟩) (all_cons (⟨_, _, rfl, ⟨h_a6, h_i6, h_k6⟩, by unfold PySem.W.fnIn; rw [h_l6]⟩) (all_cons (⟨_, _, rfl, ⟨h_a7, h_i7, h_k7⟩, by unfold PySem.W.fnIn; rw [h_l7]⟩) (all_cons (⟨_, _, rfl, ⟨h_a8, h_i8, h_k8⟩, by unfold PySem.W.fnIn; rw [h_l8]⟩) all_nil))))))) f (c, m, n) e
    make := fun c x f n dfl e => lk_all (L := L_ini) (P := fun c (v : Str × Nat × Nat × List (List V)) => ∃ C l, loc v.2.1 = some l ∧ ar v.2.1 = v.2.2.1 ∧ G c = some C ∧ mg v.1 = some (.ref C) ∧ Mk K C l.fa ∧ ∀ dvs ∈ v.2.2.2, ∃ ds, Vals dvs ds ∧ Binds K l.fd l.ps ds) (all_cons (⟨_, _, rfl, rfl, rfl, PySem.W.mg_of X GG h_aC0, ⟨h_mk_0, h_a1, h_i1, h_kc_0⟩, (all_cons (F1.binds1 (ps := [("self" : Str), ("top" : Str), ("bottom" : Str)]) 3 1 (by simp) rfl fun _ _ _ _ _ _ _ us its h1 h2 => match us, its, h1, h2 with | [_, _, _], [_], _, _ => ⟨_, rfl, rfl⟩) all_nil)⟩) all_nil) c (x, f, n, dfl) e
    makeK := fun c x f n m ks e => lk_all (L := L_kw) (P := fun c (v : Str × Nat × Nat × Nat × List Str) => ∃ C l, loc v.2.1 = some l ∧ ar v.2.1 = v.2.2.1 ∧ G c = some C ∧ mg v.1 = some (.ref C) ∧ Mk K C l.fa ∧ KBn K l.fd l.ps (v.2.2.2.1 + 1) v.2.2.2.2 (fun us ws => us ++ ws) (fun vs zs => vs ++ zs)) all_nil c (x, f, n, m, ks) e
    prop := fun f c x e => lk_all (L := L_prop) (P := fun f (v : Nat × Str) => ∃ C p l, loc f = some l ∧ ar f = 1 ∧ G v.1 = some C ∧ PropOf K C v.2 p l.fa ∧ Binds K l.fd l.ps []) all_nil f (c, x) e
    cls := lk_all (L := ([(0, C0)] : List (Nat × Addr))) (P := fun c C => Cls K C) (all_cons (⟨h_pg_0, h_hd_0, h_po_0, h_sa_0⟩) all_nil)
    nat := fun c C x g m => lk_all (L := ([(0, C0)] : List (Nat × Addr))) (P := fun c C => ∀ x ∈ SG.fl c, NoAttr K C x) (all_cons ((show ∀ x ∈ SG.fl 0, NoAttr K C0 x from (all_cons (h_n_0_top) (all_cons (h_n_0_bottom) all_nil)))) all_nil) c C g x m
    glb := mem_all (all_cons (PySem.W.mg_none_of X GG h_z_abs) (all_cons (PySem.W.mg_none_of X GG h_z_bool) (all_cons (PySem.W.mg_none_of X GG h_z_int) (all_cons (PySem.W.mg_none_of X GG h_z_isinstance) (all_cons (PySem.W.mg_none_of X GG h_z_len) (all_cons (PySem.W.mg_none_of X GG h_z_max) (all_cons (PySem.W.mg_none_of X GG h_z_range) (all_cons (PySem.W.mg_none_of X GG h_z_str) (all_cons (PySem.W.mg_none_of X GG h_z_tuple) all_nil)))))))))
    con := lks_all (L := L_con) (P := fun x v => ∃ u, mg x = some u ∧ RelV v u) all_nil
    dct := lks_all (L := L_dct) (P := fun (x : Str) (kv : List (Str × Int)) => ∃ d : Addr, mg x = some (Value.ref d) ∧ ∀ p : Str × Int, p ∈ kv → KDct K w d p.1 (V.int p.2)) (all_cons (⟨_, PySem.W.mg_of X GG h_da0, (show ∀ p ∈ ([(("plus" : Str), (0 : Int)), (("row" : Str), (1 : Int)), (("star" : Str), (2 : Int)), (("number" : Str), (3 : Int)), (("letter" : Str), (3 : Int))] : List (Str × Int)), KDct K w Dd0 p.1 (.int p.2) from (all_cons (dct_of h_dl0 h_dw0 h_dv0_0 ⟨_, rfl⟩) (all_cons (dct_of h_dl0 h_dw0 h_dv0_1 ⟨_, rfl⟩) (all_cons (dct_of h_dl0 h_dw0 h_dv0_2 ⟨_, rfl⟩) (all_cons (dct_of h_dl0 h_dw0 h_dv0_3 ⟨_, rfl⟩) (all_cons (dct_of h_dl0 h_dw0 h_dv0_4 ⟨_, rfl⟩) all_nil))))))⟩) all_nil)
    cnm := lks_all (L := L_cn) (P := fun x c => ∃ C, G c = some C ∧ mg x = some (.ref C)) (all_cons (⟨_, rfl, PySem.W.mg_of X GG h_aC0⟩) all_nil)
    ty := lk_all (L := ([(0, C0)] : List (Nat × Addr))) (P := fun c C => PySem.W.findIn K (.ref C) "__class__" = some (some (.builtin "object.__class__")) ∧ PySem.W.specialIn K (.builtin "object.__class__") "__get__" = some (some (.builtin "getset_descriptor.__get__")) ∧ PySem.W.takesIn K (.builtin "object.__class__") = some true ∧ PySem.W.mroIn K C (.type "object") = some true) (all_cons (⟨h_ta_0, h_tb, h_tc, h_td_0⟩) all_nil)
    sf := lk_all (L := ([(0, C0)] : List (Nat × Addr))) (P := fun c C => PySem.W.selfFirst K C = true) (all_cons (h_sf_0) all_nil)
    isc := fun c c' C C' g g' => lk_all (L := ([(0, C0)] : List (Nat × Addr))) (P := fun c C => ∀ c' C', G c' = some C' → PySem.W.kitOne K (.ref C) (.ref C') = some (SG.sub c c')) (all_cons (lk_all (L := ([(0, C0)] : List (Nat × Addr))) (P := fun c' C' => PySem.W.kitOne K (.ref C0) (.ref C') = some (SG.sub 0 c')) (all_cons (h_ic_0_0) all_nil)) all_nil) c C g c' C' g'
    isb := fun T c C m g => (show ∀ T ∈ ["NoneType", "bool", "int", "str", "tuple", "list", "dict"], ∀ c C, G c = some C → PySem.W.kitOne K (.type T) (.ref C) = some false from (all_cons (fun c C g => lk_all (L := ([(0, C0)] : List (Nat × Addr))) (P := fun c C => PySem.W.kitOne K (.type "NoneType") (.ref C) = some false) (all_cons (h_ib_0_NoneType) all_nil) c C g) (all_cons (fun c C g => lk_all (L := ([(0, C0)] : List (Nat × Addr))) (P := fun c C => PySem.W.kitOne K (.type "bool") (.ref C) = some false) (all_cons (h_ib_0_bool) all_nil) c C g) (all_cons (fun c C g => lk_all (L := ([(0, C0)] : List (Nat × Addr))) (P := fun c C => PySem.W.kitOne K (.type "int") (.ref C) = some false) (all_cons (h_ib_0_int) all_nil) c C g) (all_cons (fun c C g => lk_all (L := ([(0, C0)] : List (Nat × Addr))) (P := fun c C => PySem.W.kitOne K (.type "str") (.ref C) = some false) (all_cons (h_ib_0_str) all_nil) c C g) (all_cons (fun c C g => lk_all (L := ([(0, C0)] : List (Nat × Addr))) (P := fun c C => PySem.W.kitOne K (.type "tuple") (.ref C) = some false) (all_cons (h_ib_0_tuple) all_nil) c C g) (all_cons (fun c C g => lk_all (L := ([(0, C0)] : List (Nat × Addr))) (P := fun c C => PySem.W.kitOne K (.type "list") (.ref C) = some false) (all_cons (h_ib_0_list) all_nil) c C g) (all_cons (fun c C g => lk_all (L := ([(0, C0)] : List (Nat × Addr))) (P := fun c C => PySem.W.kitOne K (.type "dict") (.ref C) = some false) (all_cons (h_ib_0_dict) all_nil) c C g) all_nil)))))))) T m c C g
    ist := fun T c C m g => (show ∀ T ∈ ["NoneType", "bool", "int", "str", "tuple", "list", "dict"], ∀ c C, G c = some C → PySem.W.kitOne K (.ref C) (.type T) = some false from (all_cons (fun c C g => lk_all (L := ([(0, C0)] : List (Nat × Addr))) (P := fun c C => PySem.W.kitOne K (.ref C) (.type "NoneType") = some false) (all_cons (h_it_0_NoneType) all_nil) c C g) (all_cons (fun c C g => lk_all (L := ([(0, C0)] : List (Nat × Addr))) (P := fun c C => PySem.W.kitOne K (.ref C) (.type "bool") = some false) (all_cons (h_it_0_bool) all_nil) c C g) (all_cons (fun c C g => lk_all (L := ([(0, C0)] : List (Nat × Addr))) (P := fun c C => PySem.W.kitOne K (.ref C) (.type "int") = some false) (all_cons (h_it_0_int) all_nil) c C g) (all_cons (fun c C g => lk_all (L := ([(0, C0)] : List (Nat × Addr))) (P := fun c C => PySem.W.kitOne K (.ref C) (.type "str") = some false) (all_cons (h_it_0_str) all_nil) c C g) (all_cons (fun c C g => lk_all (L := ([(0, C0)] : List (Nat × Addr))) (P := fun c C => PySem.W.kitOne K (.ref C) (.type "tuple") = some false) (all_cons (h_it_0_tuple) all_nil) c C g) (all_cons (fun c C g => lk_all (L := ([(0, C0)] : List (Nat × Addr))) (P := fun c C => PySem.W.kitOne K (.ref C) (.type "list") = some false) (all_cons (h_it_0_list) all_nil) c C g) (all_cons (fun c C g => lk_all (L := ([(0, C0)] : List (Nat × Addr))) (P := fun c C => PySem.W.kitOne K (.ref C) (.type "dict") = some false) (all_cons (h_it_0_dict) all_nil) c C g) all_nil)))))))) T m c C g
    xn := lks_all (L := L_xn) (P := fun x c => ∃ C, XG c = some C ∧ mg x = some (.ref C)) all_nil
    xc := lk_all (L := ([] : List (Nat × Addr))) (P := fun c C => XcF l.prog w K mg base C) all_nil
    xs := fun c c' C C' g g' => lk_all (L := ([] : List (Nat × Addr))) (P := fun c C => ∀ c' C', XG c' = some C' → PySem.W.kitOne K (.ref C) (.ref C') = some (SG.xs c c') ∧ PySem.W.exmOne K (.ref C) (.ref C') = some (SG.xs c c')) all_nil c C g c' C' g'
    xv := lk_all (L := ([] : List (Nat × Addr))) (P := fun c C => PySem.W.kitOne K (.ref C) (.type "ValueError") = some true) all_nil }
  refine ⟨_, fun s u => .of_eq rfl, fun base _ _ see => ⟨G, XG, (kept_all (P := l.prog) (wd := w) (base := base) (ds := DEFS) (st base see) (fun n T => ?_) 150).1 i_law _ rfl⟩⟩
  refine lk_all (P := fun f (v : Py.Loc) => FnOk l.prog w K mg base (L2.CX l.prog w) (n + 42) v.fa v.fd v.ps (spOf ((Jn.mk SG G XG none).inf K) (tabP DEFS (n + 1)).1 f (ar f))) (all_cons (ok_shared_part F0 T (FT_shared_part n)) (all_cons (ok_Ratio___init__ F1 T (FT_Ratio___init__ n)) (all_cons (ok_Ratio___add__ F2 T (FT_Ratio___add__ n)) (all_cons (ok_Ratio___sub__ F3 T (FT_Ratio___sub__ n)) (all_cons (ok_Ratio___mul__ F4 T (FT_Ratio___mul__ n)) (all_cons (ok_Ratio___neg__ F5 T (FT_Ratio___neg__ n)) (all_cons (ok_Ratio___eq__ F6 T (FT_Ratio___eq__ n)) (all_cons (ok_Ratio___bool__ F7 T (FT_Ratio___bool__ n)) (all_cons (ok_Ratio_text F8 T (FT_Ratio_text n)) (all_cons (ok_write_part F9 T (FT_write_part n)) (all_cons (ok_write_sum F10 T (FT_write_sum n)) (all_cons (ok__law_feed F11 T (FT__law_feed n)) (all_cons (ok__law_draw F12 T (FT__law_draw n)) (all_cons (ok__law_great F13 T (FT__law_great n)) (all_cons (ok__law_pair F14 T (FT__law_pair n)) (all_cons (ok__law_is_integer F15 T (FT__law_is_integer n)) (all_cons (ok__law_same F16 T (FT__law_same n)) (all_cons (ok__law_leaf F17 T (FT__law_leaf n)) (all_cons (ok__law_joined F18 T (FT__law_joined n)) (all_cons (ok__law_bush F19 T (FT__law_bush n)) (all_cons (ok__law_chain F20 T (FT__law_chain n)) (all_cons (ok__law_wide_term F21 T (FT__law_wide_term n)) (all_cons (ok__law_term F22 T (FT__law_term n)) (all_cons (ok__law_made F23 T (FT__law_made n)) (all_cons (ok__law_text F24 T (FT__law_text n)) (all_cons (ok__law_part F25 T (FT__law_part n)) (all_cons (ok__law_write F26 T (FT__law_write n)) (all_cons (ok__law_same_term F27 T (FT__law_same_term n)) (all_cons (ok_law F28 T (FT_law n)) all_nil)))))))))))))))))))))))))))))
end Lw
open PySem PySem.W PyProof.Rows Py in
set_option maxHeartbeats 0 in
theorem PySem.Challenge.cw_wordworth_k26_write_sum_holds : PySem.Challenge.rw_wordworth_k26_write_sum.Holds := by
  w_on; o_law; k_head; (case hw => w_witness2)
  k_fill
  refine Py.law_end (l := PySem.Challenge.rw_wordworth_k26_write_sum) (k := 191) (f := Lw.i_law) (F := Lw.FT 150) (sg := Lw.SG) rfl rfl ⟨rfl, by decide, by decide⟩ (by decide +kernel) (fun w h Y => PySem.W.kIn_of Y) ?F Lw.law_holds
  case F =>
    intro w mg fa h KX G hmg
    refine' Lw.all_mk KX G hmg ?h_aC0 ?h_a0 ?h_l0 ?h_c0 ?h_k0 ?h_a1 ?h_i1 ?h_l1 ?h_d1 ?h_c1 ?h_k1 ?h_a2 ?h_i2 ?h_l2 ?h_c2 ?h_k2 ?h_a3 ?h_i3 ?h_l3 ?h_c3 ?h_k3 ?h_a4 ?h_i4 ?h_l4 ?h_c4 ?h_k4 ?h_a5 ?h_i5 ?h_l5 ?h_c5 ?h_k5 ?h_a6 ?h_i6 ?h_l6 ?h_c6 ?h_k6 ?h_a7 ?h_i7 ?h_l7 ?h_c7 ?h_k7 ?h_a8 ?h_i8 ?h_l8 ?h_c8 ?h_k8 ?h_a9 ?h_l9 ?h_c9 ?h_k9 ?h_a10 ?h_l10 ?h_c10 ?h_k10 ?h_a11 ?h_l11 ?h_c11 ?h_k11 ?h_a12 ?h_l12 ?h_c12 ?h_k12 ?h_a13 ?h_l13 ?h_c13 ?h_k13 ?h_a14 ?h_l14 ?h_c14 ?h_k14 ?h_a15 ?h_l15 ?h_c15 ?h_k15 ?h_a16 ?h_l16 ?h_c16 ?h_k16 ?h_a17 ?h_l17 ?h_c17 ?h_k17 ?h_a18 ?h_l18 ?h_c18 ?h_k18 ?h_a19 ?h_l19 ?h_c19 ?h_k19 ?h_a20 ?h_l20 ?h_c20 ?h_k20 ?h_a21 ?h_l21 ?h_c21 ?h_k21 ?h_a22 ?h_l22 ?h_c22 ?h_k22 ?h_a23 ?h_l23 ?h_c23 ?h_k23 ?h_a24 ?h_l24 ?h_c24 ?h_k24 ?h_a25 ?h_l25 ?h_c25 ?h_k25 ?h_a26 ?h_l26 ?h_c26 ?h_k26 ?h_a27 ?h_l27 ?h_c27 ?h_k27 ?h_a28 ?h_l28 ?h_c28 ?h_k28 ?h_pg_0 ?h_hd_0 ?h_po_0 ?h_sa_0 ?h_mk_0 ?h_kc_0 ?h_ta_0 ?h_td_0 ?h_sf_0 ?h_n_0_top ?h_n_0_bottom ?h_ic_0_0 ?h_ib_0_NoneType ?h_it_0_NoneType ?h_ib_0_bool ?h_it_0_bool ?h_ib_0_int ?h_it_0_int ?h_ib_0_str ?h_it_0_str ?h_ib_0_tuple ?h_it_0_tuple ?h_ib_0_list ?h_it_0_list ?h_ib_0_dict ?h_it_0_dict ?h_tb ?h_tc ?h_tree ?h_z_abs ?h_z_bool ?h_z_int ?h_z_isinstance ?h_z_len ?h_z_max ?h_z_range ?h_z_str ?h_z_tuple ?h_da0 ?h_dl0 ?h_dw0 ?h_dv0_0 ?h_dv0_1 ?h_dv0_2 ?h_dv0_3 ?h_dv0_4
    (case h_aC0 => k_is)
    (case h_a0 => k_is)
    (case h_l0 => k_is)
    (case h_c0 => k_is)
    (case h_k0 => k_is)
    (case h_a1 => k_is)
    (case h_i1 => k_is)
    (case h_l1 => k_is)
    (case h_d1 => k_is)
    (case h_c1 => k_is)
    (case h_k1 => k_is)
    (case h_a2 => k_is)
    (case h_i2 => k_is)
    (case h_l2 => k_is)
    (case h_c2 => k_is)
    (case h_k2 => k_is)
    (case h_a3 => k_is)
    (case h_i3 => k_is)
    (case h_l3 => k_is)
    (case h_c3 => k_is)
    (case h_k3 => k_is)
    (case h_a4 => k_is)
    (case h_i4 => k_is)
    (case h_l4 => k_is)
    (case h_c4 => k_is)
    (case h_k4 => k_is)
    (case h_a5 => k_is)
    (case h_i5 => k_is)
    (case h_l5 => k_is)
    (case h_c5 => k_is)
    (case h_k5 => k_is)
    (case h_a6 => k_is)
    (case h_i6 => k_is)
    (case h_l6 => k_is)
    (case h_c6 => k_is)
    (case h_k6 => k_is)
    (case h_a7 => k_is)
    (case h_i7 => k_is)
    (case h_l7 => k_is)
    (case h_c7 => k_is)
    (case h_k7 => k_is)
    (case h_a8 => k_is)
    (case h_i8 => k_is)
    (case h_l8 => k_is)
    (case h_c8 => k_is)
    (case h_k8 => k_is)
    (case h_a9 => k_is)
    (case h_l9 => k_is)
    (case h_c9 => k_is)
    (case h_k9 => k_is)
    (case h_a10 => k_is)
    (case h_l10 => k_is)
    (case h_c10 => k_is)
    (case h_k10 => k_is)
    (case h_a11 => k_is)
    (case h_l11 => k_is)
    (case h_c11 => k_is)
    (case h_k11 => k_is)
    (case h_a12 => k_is)
    (case h_l12 => k_is)
    (case h_c12 => k_is)
    (case h_k12 => k_is)
    (case h_a13 => k_is)
    (case h_l13 => k_is)
    (case h_c13 => k_is)
    (case h_k13 => k_is)
    (case h_a14 => k_is)
    (case h_l14 => k_is)
    (case h_c14 => k_is)
    (case h_k14 => k_is)
    (case h_a15 => k_is)
    (case h_l15 => k_is)
    (case h_c15 => k_is)
    (case h_k15 => k_is)
    (case h_a16 => k_is)
    (case h_l16 => k_is)
    (case h_c16 => k_is)
    (case h_k16 => k_is)
    (case h_a17 => k_is)
    (case h_l17 => k_is)
    (case h_c17 => k_is)
    (case h_k17 => k_is)
    (case h_a18 => k_is)
    (case h_l18 => k_is)
    (case h_c18 => k_is)
    (case h_k18 => k_is)
    (case h_a19 => k_is)
    (case h_l19 => k_is)
    (case h_c19 => k_is)
    (case h_k19 => k_is)
    (case h_a20 => k_is)
    (case h_l20 => k_is)
    (case h_c20 => k_is)
    (case h_k20 => k_is)
    (case h_a21 => k_is)
    (case h_l21 => k_is)
    (case h_c21 => k_is)
    (case h_k21 => k_is)
    (case h_a22 => k_is)
    (case h_l22 => k_is)
    (case h_c22 => k_is)
    (case h_k22 => k_is)
    (case h_a23 => k_is)
    (case h_l23 => k_is)
    (case h_c23 => k_is)
    (case h_k23 => k_is)
    (case h_a24 => k_is)
    (case h_l24 => k_is)
    (case h_c24 => k_is)
    (case h_k24 => k_is)
    (case h_a25 => k_is)
    (case h_l25 => k_is)
    (case h_c25 => k_is)
    (case h_k25 => k_is)
    (case h_a26 => k_is)
    (case h_l26 => k_is)
    (case h_c26 => k_is)
    (case h_k26 => k_is)
    (case h_a27 => k_is)
    (case h_l27 => k_is)
    (case h_c27 => k_is)
    (case h_k27 => k_is)
    (case h_a28 => k_is)
    (case h_l28 => k_is)
    (case h_c28 => k_is)
    (case h_k28 => k_is)
    (case h_pg_0 => k_is)
    (case h_hd_0 => k_is)
    (case h_po_0 => k_is)
    (case h_sa_0 => k_is)
    (case h_mk_0 => k_is)
    (case h_kc_0 => k_is)
    (case h_ta_0 => k_is)
    (case h_td_0 => k_is)
    (case h_sf_0 => k_is)
    (case h_n_0_top => k_is)
    (case h_n_0_bottom => k_is)
    (case h_ic_0_0 => kit_is)
    (case h_ib_0_NoneType => kit_is)
    (case h_it_0_NoneType => kit_is)
    (case h_ib_0_bool => kit_is)
    (case h_it_0_bool => kit_is)
    (case h_ib_0_int => kit_is)
    (case h_it_0_int => kit_is)
    (case h_ib_0_str => kit_is)
    (case h_it_0_str => kit_is)
    (case h_ib_0_tuple => kit_is)
    (case h_it_0_tuple => kit_is)
    (case h_ib_0_list => kit_is)
    (case h_it_0_list => kit_is)
    (case h_ib_0_dict => kit_is)
    (case h_it_0_dict => kit_is)
    (case h_tb => k_is)
    (case h_tc => k_is)
    (case h_tree => rfl)
    (case h_z_abs => k_is)
    (case h_z_bool => k_is)
    (case h_z_int => k_is)
    (case h_z_isinstance => k_is)
    (case h_z_len => k_is)
    (case h_z_max => k_is)
    (case h_z_range => k_is)
    (case h_z_str => k_is)
    (case h_z_tuple => k_is)
    (case h_da0 => k_is)
    (case h_dl0 => k_is)
    (case h_dw0 => rfl)
    (case h_dv0_0 => k_is)
    (case h_dv0_1 => k_is)
    (case h_dv0_2 => k_is)
    (case h_dv0_3 => k_is)
    (case h_dv0_4 => k_is)
#print axioms PySem.Challenge.cw_wordworth_k26_write_sum_holds
