import PyProof.Rows.All
import Wide.All
import OpenK.AllK
import Wide.FinOn
import HandS.ForMost
import HandS.ForExc
import HandS.TryMany
import HandS.Defaults
import HandS.CallSlots
import HandS.Walk
import HandS.TupAny
import HandS.TupMul
import HandS.Wide
import HandS.SortInts
import HandS.Deep
import HandS.Zip
import HandS.Rev
import HandS.IsInst
import HandS.RaiseMore
import HandS.SetFor
import KE.KExcIs
import HandS.ExcInit
import HandS.ExcValue
import HandS.MakeKwOnly
import HandS.MakeKw
import KE.KTryMore
import HandS.ExcField
import HandS.EndBits
import HandS.Head0
import HandS.Head1
import HandS.Head2
import HandS.HeadEnd
import HandS.HeadHook1
import HandS.HeadHook2
import HandS.HeadHook3
import HandS.HeadHook4
import KE.DataEq
import PySem.Challenge.RW_flockround_k07_exceptions_and_their_attr
set_option Elab.async false
set_option linter.all false
set_option maxRecDepth 100000
set_option maxHeartbeats 4000000
/-! PF, part a: data, stores, what represents them in the abstract heap, how the heap goes on. -/
namespace PF
open PySem L2

inductive D where
  | non | bl (b : Bool) | int (i : Int) | str (x : Str)
  | tup (xs : List D) | lst (xs : List D) | scr (ns : List Int) | ref (n : Nat)
  | dct (ks : List Key) (vs : List D)
  | exn (c : Str) (ns : List Str) (vs : List D)
inductive MO where
  | lst (xs : List D) | dct (ks : List Key) (vs : List D) | ins (c : Str) (ns : List Str) (vs : List D)
abbrev Sto := List MO
inductive Sl where
  | val (d : D) | own (o : MO)
abbrev En := List (Option Sl)
inductive R (α : Type) where
  | ok (a : α) (S : Sto) | ex (e : D) (S : Sto) | stk
def R.bind {α β : Type} (r : R α) (k : α → Sto → R β) : R β := match r with
  | .ok a S => k a S
  | .ex e S => .ex e S
  | .stk => .stk
@[simp] theorem R.bind_ok {α β : Type} (a : α) (S : Sto) (k : α → Sto → R β) : (R.ok a S).bind k = k a S := rfl
@[simp] theorem R.bind_ex {α β : Type} (e : D) (S : Sto) (k : α → Sto → R β) : (R.ex e S : R α).bind k = .ex e S := rfl
@[simp] theorem R.bind_stk {α β : Type} (k : α → Sto → R β) : (R.stk : R α).bind k = .stk := rfl

structure Gc where
  K : PySem.W.Frag
  mg : Str → Option Value
structure Wd where
  m : List Addr
  M : Addr → Prop
  U : Addr → Prop
/-- an exception object at a -/
def xnO (C : Addr) (od : Option Addr) (a : Addr) : HO := .ext fun h => ∃ (oe : Obj) (vs : Array Value), h.get? a = some oe ∧ Zc (.ref C) od oe ∧ oe.data = .fields vs
def KLs (K : PySem.W.Frag) (a : Addr) (xs : List V) : Prop :=
  ∃ (o : Obj) (its : Array Value) (n : Nat), K.lookup a = some o ∧ o.cls = .type "list" ∧ o.dict = none ∧ o.data = .seq its n ∧ its.size ≤ sizeLine ∧ Vals xs its.toList
def ScrAt (K : PySem.W.Frag) (ω : Wd) (H : Hp) (a : Addr) (ns : List Int) : Prop := (Rd H a (.lst (ns.map V.int)) ∧ ¬ ω.U a) ∨ KLs K a (ns.map V.int)
mutual
inductive Rep (G : Gc) (ω : Wd) (H : Hp) : D → V → Prop
  | non : Rep G ω H .non .non
  | bl {b : Bool} : Rep G ω H (.bl b) (.bl b)
  | int {i : Int} : Rep G ω H (.int i) (.int i)
  | str {x : Str} : Rep G ω H (.str x) (.str x)
  | tup {a : Addr} {xs : List D} {vs : List V} : H a = some (.tup vs) → ¬ ω.U a → Reps G ω H xs vs → Rep G ω H (.tup xs) (.ref a)
  | lst {a : Addr} {xs : List D} {vs : List V} : H a = some (.lst vs) → ¬ ω.U a → Reps G ω H xs vs → Rep G ω H (.lst xs) (.ref a)
  | scr {a : Addr} {ns : List Int} : ScrAt G.K ω H a ns → Rep G ω H (.scr ns) (.ref a)
  | ref {a : Addr} {n : Nat} : ω.m[n]? = some a → Rep G ω H (.ref n) (.ref a)
  | dct {a : Addr} {ks : List Key} {xs : List D} {vs : List V} : H a = some (.dK (ks.zip vs)) → ks.length = vs.length → ¬ ω.U a → Reps G ω H xs vs → Rep G ω H (.dct ks xs) (.ref a)
  | exn {a C : Addr} {od : Option Addr} {c : Str} {ns : List Str} {xs : List D} {vs : List V} : G.mg c = some (.ref C) → H a = some (xnO C od a) → ¬ ω.U a →
      (∀ d, od = some d → H d = some (.xd (ns.zip vs)) ∧ ¬ ω.U d) → (od = none → xs = []) → ns.length = vs.length → Reps G ω H xs vs → Rep G ω H (.exn c ns xs) (.ref a)
inductive Reps (G : Gc) (ω : Wd) (H : Hp) : List D → List V → Prop
  | nil : Reps G ω H [] []
  | cons {d : D} {v : V} {xs : List D} {vs : List V} : Rep G ω H d v → Reps G ω H xs vs → Reps G ω H (d :: xs) (v :: vs)
end

structure Le (ω : Wd) (H : Hp) (ω' : Wd) (H' : Hp) : Prop where
  mext : ∃ t, ω'.m = ω.m ++ t
  Mle : ∀ a, ω.M a → ω'.M a
  Mnew : ∀ a, ω'.M a → ω.M a ∨ H a = none
  Ule : ∀ a, ω.U a → ω'.U a
  Unew : ∀ a, ω'.U a → ω.U a ∨ H a = none
  frame : ∀ a o, H a = some o → ¬ ω.M a → H' a = some o
  dom : ∀ a, H' a = none → H a = none
section
variable {G : Gc} {ω ω' ω2 : Wd} {H H' H2 : Hp}
theorem Le.refl (ω : Wd) (H : Hp) : Le ω H ω H := ⟨⟨[], by simp⟩, fun _ h => h, fun _ h => .inl h, fun _ h => h, fun _ h => .inl h, fun _ _ h _ => h, fun _ h => h⟩
theorem Le.trans (a : Le ω H ω' H') (b : Le ω' H' ω2 H2) : Le ω H ω2 H2 := by
  refine ⟨?_, fun x h => b.Mle x (a.Mle x h), fun x h => ?_, fun x h => b.Ule x (a.Ule x h), fun x h => ?_, fun x o h n => ?_, fun x h => a.dom x (b.dom x h)⟩
  · obtain ⟨t, e⟩ := a.mext
    obtain ⟨u, e'⟩ := b.mext
    exact ⟨t ++ u, by rw [e', e, List.append_assoc]⟩
  · rcases b.Mnew x h with h | h
    · exact a.Mnew x h
    · exact .inr (a.dom x h)
  · rcases b.Unew x h with h | h
    · exact a.Unew x h
    · exact .inr (a.dom x h)
  · refine b.frame x o (a.frame x o h n) fun z => ?_
    rcases a.Mnew x z with z | z
    · exact n z
    · rw [h] at z; cases z
theorem Le.nU (a : Le ω H ω' H') {x : Addr} {o : HO} (h : H x = some o) (n : ¬ ω.U x) : ¬ ω'.U x := fun z => by
  rcases a.Unew x z with z | z
  · exact n z
  · rw [h] at z; cases z
theorem Le.nM (a : Le ω H ω' H') {x : Addr} {o : HO} (h : H x = some o) (n : ¬ ω.M x) : ¬ ω'.M x := fun z => by
  rcases a.Mnew x z with z | z
  · exact n z
  · rw [h] at z; cases z
theorem Le.m_get (a : Le ω H ω' H') {n : Nat} {x : Addr} (h : ω.m[n]? = some x) : ω'.m[n]? = some x := by
  obtain ⟨t, e⟩ := a.mext
  rw [e, List.getElem?_append_left (List.getElem?_eq_some_iff.mp h).1]
  exact h
theorem ScrAt.le (mu : ∀ a, ω.M a → ω.U a) (l : Le ω H ω' H') {a : Addr} {ns : List Int} (h : ScrAt G.K ω H a ns) : ScrAt G.K ω' H' a ns := by
  rcases h with ⟨h | ⟨o, h⟩, n⟩ | h
  · exact .inl ⟨.inl (l.frame _ _ h fun z => n (mu _ z)), l.nU h n⟩
  · exact .inl ⟨.inr ⟨o, l.frame _ _ h fun z => n (mu _ z)⟩, l.nU h n⟩
  · exact .inr h
mutual
theorem Rep.le (mu : ∀ a, ω.M a → ω.U a) (l : Le ω H ω' H') {d : D} {v : V} (r : Rep G ω H d v) : Rep G ω' H' d v := match r with
  | .non => .non
  | .bl => .bl
  | .int => .int
  | .str => .str
  | .tup h n r => .tup (l.frame _ _ h fun z => n (mu _ z)) (l.nU h n) (Reps.le mu l r)
  | .lst h n r => .lst (l.frame _ _ h fun z => n (mu _ z)) (l.nU h n) (Reps.le mu l r)
  | .scr h => .scr (h.le (G := G) mu l)
  | .ref h => .ref (l.m_get h)
  | .dct h e n r => .dct (l.frame _ _ h fun z => n (mu _ z)) e (l.nU h n) (Reps.le mu l r)
  | .exn g h n k o e r => .exn g (l.frame _ _ h fun z => n (mu _ z)) (l.nU h n) (fun d q => ⟨l.frame _ _ (k d q).1 fun z => (k d q).2 (mu _ z), l.nU (k d q).1 (k d q).2⟩) o e (Reps.le mu l r)
theorem Reps.le (mu : ∀ a, ω.M a → ω.U a) (l : Le ω H ω' H') {d : List D} {v : List V} (r : Reps G ω H d v) : Reps G ω' H' d v := match r with
  | .nil => .nil
  | .cons a b => .cons (Rep.le mu l a) (Reps.le mu l b)
end
theorem Reps.length {xs : List D} {vs : List V} (r : Reps G ω H xs vs) : xs.length = vs.length := by
  induction xs generalizing vs with
  | nil => cases r; rfl
  | cons d xs ih => cases r with | cons a b => rw [List.length_cons, List.length_cons, ih b]
theorem Reps.get {xs : List D} {vs : List V} (r : Reps G ω H xs vs) : ∀ {i : Nat} {d : D}, xs[i]? = some d → ∃ v, vs[i]? = some v ∧ Rep G ω H d v := by
  induction xs generalizing vs with
  | nil => intro i d h; simp at h
  | cons x xs ih =>
    cases r with
    | cons a b =>
      intro i d h
      cases i with
      | zero => simp at h; subst h; exact ⟨_, rfl, a⟩
      | succ i => exact ih b (by simpa using h)
theorem Reps.getV {xs : List D} {vs : List V} (r : Reps G ω H xs vs) : ∀ {i : Nat} {v : V}, vs[i]? = some v → ∃ d, xs[i]? = some d ∧ Rep G ω H d v := by
  induction xs generalizing vs with
  | nil => cases r; intro i d h; simp at h
  | cons x xs ih =>
    cases r with
    | cons a b =>
      intro i d h
      cases i with
      | zero => simp at h; subst h; exact ⟨_, rfl, a⟩
      | succ i => exact ih b (by simpa using h)
theorem Reps.append {xs ys : List D} {vs ws : List V} (r : Reps G ω H xs vs) (q : Reps G ω H ys ws) : Reps G ω H (xs ++ ys) (vs ++ ws) := by
  induction xs generalizing vs with
  | nil => cases r; exact q
  | cons x xs ih => cases r with | cons a b => exact .cons a (ih b)
theorem Reps.take {xs : List D} {vs : List V} (r : Reps G ω H xs vs) (n : Nat) : Reps G ω H (xs.take n) (vs.take n) := by
  induction xs generalizing vs n with
  | nil => cases r; cases n <;> exact .nil
  | cons x xs ih =>
    cases r with
    | cons a b =>
      cases n with
      | zero => exact .nil
      | succ n => exact .cons a (ih b n)
theorem Reps.drop {xs : List D} {vs : List V} (r : Reps G ω H xs vs) (n : Nat) : Reps G ω H (xs.drop n) (vs.drop n) := by
  induction xs generalizing vs n with
  | nil => cases r; cases n <;> exact .nil
  | cons x xs ih =>
    cases r with
    | cons a b =>
      cases n with
      | zero => exact .cons a b
      | succ n => exact ih b n
theorem Reps.reverse {xs : List D} {vs : List V} (r : Reps G ω H xs vs) : Reps G ω H xs.reverse vs.reverse := by
  induction xs generalizing vs with
  | nil => cases r; exact .nil
  | cons x xs ih => cases r with | cons a b => rw [List.reverse_cons, List.reverse_cons]; exact (ih b).append (.cons a .nil)
theorem Reps.set {xs : List D} {vs : List V} {d : D} {v : V} (r : Reps G ω H xs vs) (q : Rep G ω H d v) (i : Nat) : Reps G ω H (xs.set i d) (vs.set i v) := by
  induction xs generalizing vs i with
  | nil => cases r; exact .nil
  | cons x xs ih =>
    cases r with
    | cons a b =>
      cases i with
      | zero => exact .cons q b
      | succ n => exact .cons a (ih b n)
theorem Reps.eraseIdx {xs : List D} {vs : List V} (r : Reps G ω H xs vs) (i : Nat) : Reps G ω H (xs.eraseIdx i) (vs.eraseIdx i) := by
  induction xs generalizing vs i with
  | nil => cases r; exact .nil
  | cons x xs ih =>
    cases r with
    | cons a b =>
      cases i with
      | zero => exact b
      | succ n => exact .cons a (ih b n)
theorem Reps.flatten_rep {xs : List D} {vs : List V} (r : Reps G ω H xs vs) : ∀ k : Nat, Reps G ω H (List.replicate k xs).flatten (List.replicate k vs).flatten
  | 0 => .nil
  | k + 1 => by
    rw [List.replicate_succ, List.replicate_succ, List.flatten_cons, List.flatten_cons]
    exact r.append (r.flatten_rep k)
theorem Reps.ints {ns : List Int} {vs : List V} (r : Reps G ω H (ns.map D.int) vs) : vs = ns.map V.int := by
  induction ns generalizing vs with
  | nil => cases r; rfl
  | cons n ns ih =>
    cases r with
    | cons a b =>
      cases a
      rw [ih b]; rfl
theorem Reps.of_ints (ns : List Int) : Reps G ω H (ns.map D.int) (ns.map V.int) := by
  induction ns with
  | nil => exact .nil
  | cons n ns ih => exact .cons .int ih

/-- what a thing in the store, or a list of the frame's own, is in the heap -/
def RepO (G : Gc) (ω : Wd) (H : Hp) (o : MO) (a : Addr) : Prop := match o with
  | .lst xs => ∃ vs, H a = some (.lst vs) ∧ Reps G ω H xs vs
  | .dct ks xs => ∃ vs, H a = some (.dK (ks.zip vs)) ∧ ks.length = vs.length ∧ Reps G ω H xs vs
  | .ins c ns xs => ∃ C dx vs, G.mg c = some (.ref C) ∧ H a = some (.ins C dx (ns.zip vs)) ∧ ns.length = vs.length ∧ Reps G ω H xs vs
theorem RepO.some {o : MO} {a : Addr} (r : RepO G ω H o a) : ∃ u, H a = some u := by
  cases o with
  | lst xs => obtain ⟨vs, h, _⟩ := r; exact ⟨_, h⟩
  | dct ks xs => obtain ⟨vs, h, _⟩ := r; exact ⟨_, h⟩
  | ins c ns xs => obtain ⟨C, dx, vs, _, h, _⟩ := r; exact ⟨_, h⟩
/-- it stays where its address keeps its content -/
theorem RepO.le (mu : ∀ a, ω.M a → ω.U a) (l : Le ω H ω' H') {o : MO} {a : Addr} (k : ∀ u, H a = Option.some u → H' a = Option.some u) (r : RepO G ω H o a) : RepO G ω' H' o a := by
  cases o with
  | lst xs => obtain ⟨vs, h, q⟩ := r; exact ⟨vs, k _ h, q.le mu l⟩
  | dct ks xs => obtain ⟨vs, h, e, q⟩ := r; exact ⟨vs, k _ h, e, q.le mu l⟩
  | ins c ns xs => obtain ⟨C, dx, vs, g, h, e, q⟩ := r; exact ⟨C, dx, vs, g, k _ h, e, q.le mu l⟩
def RepS (G : Gc) (ω : Wd) (H : Hp) (H0 : Hp) (s : Sl) (v : V) : Prop := match s with
  | .val d => Rep G ω H d v
  | .own o => ∃ a, v = .ref a ∧ RepO G ω H o a ∧ ω.U a ∧ ¬ ω.M a ∧ H0 a = none

/-- the store -/
structure Sim0 (G : Gc) (ω : Wd) (S : Sto) (H : Hp) : Prop where
  mu : ∀ a, ω.M a → ω.U a
  ud : ∀ a, ω.U a → H a ≠ none
  mem : ∀ a ∈ ω.m, ω.M a
  nd : ω.m.Nodup
  len : ω.m.length = S.length
  obj : ∀ (n : Nat) (o : MO), S[n]? = some o → ∃ a, ω.m[n]? = some a ∧ RepO G ω H o a
/-- the entry -/
structure Anc where
  w0 : Wd
  H : Hp
  gh : List (D × V) := []
structure Sim (G : Gc) (anc : Anc) (ω : Wd) (env : En) (S : Sto) (σ : L2.St) (H : Hp) : Prop where
  le0 : Le anc.w0 anc.H ω H
  aud : ∀ a, anc.w0.U a → anc.H a ≠ none
  gh : ∀ p ∈ anc.gh, Rep G ω H p.1 p.2
  st : Sim0 G ω S H
  len : env.length = σ.length
  vals : ∀ (i : Nat) (s : Sl), env[i]? = some (some s) → ∃ v, σ[i]? = some (some v) ∧ RepS G ω H anc.H s v
  ap : ∀ (i j : Nat) (o u : MO) (a : Addr), env[i]? = some (some (.own o)) → env[j]? = some (some (.own u)) → σ[i]? = some (some (.ref a)) → σ[j]? = some (some (.ref a)) → i = j
variable {anc : Anc} {env : En} {S S' : Sto} {σ : L2.St}
/-- behind an expression -/
theorem Sim.le (s : Sim G anc ω env S σ H) (l : Le ω H ω' H') (t : Sim0 G ω' S' H') : Sim G anc ω' env S' σ H' := by
  refine ⟨s.le0.trans l, s.aud, fun p hp => (s.gh p hp).le s.st.mu l, t, s.len, fun i x h => ?_, s.ap⟩
  obtain ⟨v, e, r⟩ := s.vals i x h
  refine ⟨v, e, ?_⟩
  cases x with
  | val d => exact Rep.le s.st.mu l r
  | own o =>
    obtain ⟨a, ev, r, u, n, f⟩ := r
    obtain ⟨w, hw⟩ := r.some
    exact ⟨a, ev, RepO.le s.st.mu l (fun u h => l.frame _ _ h n) r, l.Ule _ u, l.nM hw n, f⟩
/-- a new thing that nobody changes -/
theorem Le.new {p : Addr} {o : HO} (h : H p = none) : Le ω H ω (upd H p o) :=
  ⟨⟨[], by simp⟩, fun _ h => h, fun _ h => .inl h, fun _ h => h, fun _ h => .inl h, fun a u e _ => by rw [upd_ne (ne_of_none e h)]; exact e, fun a e => by
    by_cases z : a = p
    · rw [z]; exact h
    · rw [upd_ne z] at e; exact e⟩
theorem Sim0.new (t : Sim0 G ω S H) {p : Addr} {o : HO} (h : H p = none) : Sim0 G ω S (upd H p o) := by
  refine ⟨t.mu, fun a u e => ?_, t.mem, t.nd, t.len, fun n x e => ?_⟩
  · exact t.ud a u ((Le.new (ω := ω) (o := o) h).dom a e)
  · obtain ⟨a, e1, r⟩ := t.obj n x e
    exact ⟨a, e1, r.le t.mu (Le.new h) fun u q => by rw [upd_ne (ne_of_none q h)]; exact q⟩
theorem Sim.new (s : Sim G anc ω env S σ H) {p : Addr} {o : HO} (h : H p = none) : Sim G anc ω env S σ (upd H p o) := s.le (Le.new h) (s.st.new h)
theorem Sim.nU (s : Sim G anc ω env S σ H) {p : Addr} (h : H p = none) : ¬ ω.U p := fun z => s.st.ud p z h
end
end PF

/-! PF, part b: canonical readings, the judgements, names, operators, tests. -/
namespace PF
open PySem L2

section
variable {G : Gc} {ω ω' ω2 : Wd} {H H' H2 : Hp} {anc : Anc} {env : En} {S S' : Sto} {σ : L2.St}
/-! ### mutation -/
theorem upd_Rd {a b : Addr} {o : HO} {u : HO} (h : Rd H b u) (n : b ≠ a) : Rd (upd H a o) b u := by
  rcases h with h | ⟨q, h⟩
  · exact .inl (by rw [upd_ne n]; exact h)
  · exact .inr ⟨q, by rw [upd_ne n]; exact h⟩
theorem neU {P : Addr → Prop} {a b : Addr} (u : P a) (n : ¬ P b) : b ≠ a := fun z => n (by rw [z]; exact u)
theorem updU {P : Addr → Prop} {a b : Addr} {o : HO} (u : P a) (n : ¬ P b) : upd H a o b = H b := upd_ne (neU u n)
mutual
theorem Rep.mut {a : Addr} {o : HO} (u : ω.U a) {d : D} {v : V} (r : Rep G ω H d v) : Rep G ω (upd H a o) d v := match r with
  | .non => .non
  | .bl => .bl
  | .int => .int
  | .str => .str
  | .tup h n r => .tup ((updU u n).trans h) n (Reps.mut u r)
  | .lst h n r => .lst ((updU u n).trans h) n (Reps.mut u r)
  | .scr h => .scr (by
    rcases h with ⟨h, n⟩ | h
    · exact .inl ⟨upd_Rd h (neU u n), n⟩
    · exact .inr h)
  | .ref h => .ref h
  | .dct h e n r => .dct ((updU u n).trans h) e n (Reps.mut u r)
  | .exn g h n k o e r => .exn g ((updU u n).trans h) n (fun d q => ⟨(updU u (k d q).2).trans (k d q).1, (k d q).2⟩) o e (Reps.mut u r)
theorem Reps.mut {a : Addr} {o : HO} (u : ω.U a) {d : List D} {v : List V} (r : Reps G ω H d v) : Reps G ω (upd H a o) d v := match r with
  | .nil => .nil
  | .cons a b => .cons (Rep.mut u a) (Reps.mut u b)
end
theorem RepO.mut {a b : Addr} {o : HO} (u : ω.U a) (n : b ≠ a) {x : MO} (r : RepO G ω H x b) : RepO G ω (upd H a o) x b := by
  cases x with
  | lst xs => obtain ⟨vs, h, q⟩ := r; exact ⟨vs, by rw [upd_ne n]; exact h, q.mut u⟩
  | dct ks xs => obtain ⟨vs, h, e, q⟩ := r; exact ⟨vs, by rw [upd_ne n]; exact h, e, q.mut u⟩
  | ins c ns xs => obtain ⟨C, dx, vs, g, h, e, q⟩ := r; exact ⟨C, dx, vs, g, by rw [upd_ne n]; exact h, e, q.mut u⟩
theorem Le.mut {a : Addr} {o : HO} (u : ω.M a) (h : H a ≠ none) : Le ω H ω (upd H a o) :=
  ⟨⟨[], by simp⟩, fun _ h => h, fun _ h => .inl h, fun _ h => h, fun _ h => .inl h, fun b x e n => (upd_ne fun z => n (by rw [z]; exact u)).trans e, fun b e => by
    by_cases z : b = a
    · rw [z, upd_same] at e; cases e
    · rw [upd_ne z] at e; exact e⟩
/-- a thing of the store is changed -/
theorem Sim0.mut (t : Sim0 G ω S H) {n : Nat} {a : Addr} {o : HO} {x : MO} (hm : ω.m[n]? = some a) (r : RepO G ω (upd H a o) x a) : Sim0 G ω (S.set n x) (upd H a o) := by
  have ua := t.mu _ (t.mem a (List.mem_of_getElem? hm))
  have nn := t.ud a ua
  refine ⟨t.mu, fun b u e => ?_, t.mem, t.nd, by rw [List.length_set]; exact t.len, fun k y e => ?_⟩
  · exact t.ud b u ((Le.mut (ω := ω) (o := o) (t.mem a (List.mem_of_getElem? hm)) nn).dom b e)
  · by_cases z : k = n
    · subst z
      refine ⟨a, hm, ?_⟩
      rw [List.getElem?_set_self (by rw [← t.len]; exact (List.getElem?_eq_some_iff.mp hm).1)] at e
      cases e
      exact r
    · rw [List.getElem?_set_ne (Ne.symm z)] at e
      obtain ⟨b, hb, q⟩ := t.obj k y e
      refine ⟨b, hb, q.mut ua fun w => z ?_⟩
      subst w
      obtain ⟨h1, e1⟩ := List.getElem?_eq_some_iff.mp hb
      obtain ⟨h2, e2⟩ := List.getElem?_eq_some_iff.mp hm
      exact (List.getElem_inj t.nd).mp (e1.trans e2.symm)
/-- the store is kept while an owned thing is changed -/
theorem Sim0.mutU (t : Sim0 G ω S H) {a : Addr} {o : HO} (u : ω.U a) (n : ¬ ω.M a) : Sim0 G ω S (upd H a o) := by
  refine ⟨t.mu, fun b u' e => ?_, t.mem, t.nd, t.len, fun k y e => ?_⟩
  · by_cases z : b = a
    · rw [z, upd_same] at e; cases e
    · rw [upd_ne z] at e; exact t.ud b u' e
  · obtain ⟨b, hb, q⟩ := t.obj k y e
    exact ⟨b, hb, q.mut u fun w => n (by rw [← w]; exact t.mem b (List.mem_of_getElem? hb))⟩
/-- an owned thing is changed -/
theorem Sim.mutOwn (s : Sim G anc ω env S σ H) {i : Nat} {a : Addr} {o : HO} {x y : MO} (he : env[i]? = some (some (.own x))) (hs : σ[i]? = some (some (.ref a))) (r : RepO G ω (upd H a o) y a) :
    Sim G anc ω (env.set i (some (.own y))) S σ (upd H a o) := by
  obtain ⟨v, e1, a', ev, r0, u, n, f⟩ := s.vals i _ he
  rw [hs] at e1
  cases e1
  cases ev
  have hi : i < env.length := (List.getElem?_eq_some_iff.mp he).1
  refine ⟨⟨s.le0.mext, s.le0.Mle, s.le0.Mnew, s.le0.Ule, s.le0.Unew, fun b w e m => ?_, fun b e => ?_⟩, s.aud, fun p hp => (s.gh p hp).mut u, s.st.mutU u n, by rw [List.length_set]; exact s.len, fun j sl e => ?_, fun j k o' u' b e1 e2 e3 e4 => ?_⟩
  · rw [upd_ne fun z => by rw [z, f] at e; cases e]
    exact s.le0.frame b w e m
  · by_cases z : b = a
    · rw [z]; exact f
    · rw [upd_ne z] at e; exact s.le0.dom b e
  · by_cases z : j = i
    · subst z
      rw [List.getElem?_set_self hi] at e
      cases e
      exact ⟨_, hs, a, rfl, r, u, n, f⟩
    · rw [List.getElem?_set_ne (Ne.symm z)] at e
      obtain ⟨v, e1, q⟩ := s.vals j sl e
      refine ⟨v, e1, ?_⟩
      cases sl with
      | val d => exact Rep.mut u q
      | own w =>
        obtain ⟨b, ev, r', u', n', f'⟩ := q
        subst ev
        exact ⟨b, rfl, r'.mut u fun w' => z (by subst w'; exact (s.ap j i _ _ _ e he e1 hs)), u', n', f'⟩
  · have own : ∀ {l : Nat} {o'' : MO}, (env.set i (some (.own y)))[l]? = some (some (.own o'')) → ∃ o3, env[l]? = some (some (.own o3)) := fun {l o''} q => by
      by_cases z : l = i
      · subst z; exact ⟨_, he⟩
      · rw [List.getElem?_set_ne (Ne.symm z)] at q; exact ⟨_, q⟩
    obtain ⟨p1, q1⟩ := own e1
    obtain ⟨p2, q2⟩ := own e2
    exact s.ap j k _ _ _ q1 q2 e3 e4

/-! ### readings -/
def moD : MO → D
  | .lst xs => .lst xs
  | .dct k v => .dct k v
  | .ins _ _ _ => .exn Str.empty [] []
def TRep (G : Gc) (ω : Wd) (H : Hp) (env : En) (σ : L2.St) (st : Bool) (d : D) (v : V) : Prop :=
  Rep G ω H d v ∨ (st = false ∧ ∃ (i : Nat) (o : MO), env[i]? = some (some (Sl.own o)) ∧ d = moD o ∧ σ[i]? = some (some v))
def TReps (G : Gc) (ω : Wd) (H : Hp) (env : En) (σ : L2.St) (st : Bool) : List D → List V → Prop
  | [], [] => True
  | d :: ds, v :: vs => TRep G ω H env σ st d v ∧ TReps G ω H env σ st ds vs
  | _, _ => False
theorem TRep.le (mu : ∀ a, ω.M a → ω.U a) (l : Le ω H ω' H') {st : Bool} {d : D} {v : V} (r : TRep G ω H env σ st d v) : TRep G ω' H' env σ st d v :=
  r.imp (fun r => r.le mu l) id
theorem TRep.any {st : Bool} {d : D} {v : V} (r : TRep G ω H env σ st d v) : TRep G ω H env σ false d v :=
  r.imp id fun ⟨_, q⟩ => ⟨rfl, q⟩
theorem TRep.rep {d : D} {v : V} (r : TRep G ω H env σ true d v) : Rep G ω H d v := by
  rcases r with r | ⟨z, _⟩
  · exact r
  · cases z
theorem TReps.le (mu : ∀ a, ω.M a → ω.U a) (l : Le ω H ω' H') {st : Bool} : ∀ {ds : List D} {vs : List V}, TReps G ω H env σ st ds vs → TReps G ω' H' env σ st ds vs
  | [], [], _ => True.intro
  | _ :: _, _ :: _, ⟨a, b⟩ => ⟨a.le mu l, TReps.le mu l b⟩
theorem TReps.any {st : Bool} : ∀ {ds : List D} {vs : List V}, TReps G ω H env σ st ds vs → TReps G ω H env σ false ds vs
  | [], [], _ => True.intro
  | _ :: _, _ :: _, ⟨a, b⟩ => ⟨a.any, TReps.any b⟩
theorem TReps.reps : ∀ {ds : List D} {vs : List V}, TReps G ω H env σ true ds vs → Reps G ω H ds vs
  | [], [], _ => .nil
  | _ :: _, _ :: _, ⟨a, b⟩ => .cons a.rep (TReps.reps b)
def RepX (G : Gc) (ω : Wd) (H : Hp) (e : D) (cls : Value) (od : Option Addr) : Prop :=
  ∃ (c : Str) (ns : List Str) (xs : List D) (vs : List V) (C : Addr), e = .exn c ns xs ∧ G.mg c = some (.ref C) ∧ cls = .ref C ∧ (∀ d, od = some d → H d = some (.xd (ns.zip vs)) ∧ ¬ ω.U d) ∧ (od = none → xs = []) ∧ ns.length = vs.length ∧ Reps G ω H xs vs
theorem RepX.le (mu : ∀ a, ω.M a → ω.U a) (l : Le ω H ω' H') {e : D} {cls : Value} {od : Option Addr} (r : RepX G ω H e cls od) : RepX G ω' H' e cls od := by
  obtain ⟨c, ns, xs, vs, C, e1, g, e2, k, o, n, q⟩ := r
  exact ⟨c, ns, xs, vs, C, e1, g, e2, fun d h => ⟨l.frame _ _ (k d h).1 fun z => (k d h).2 (mu _ z), l.nU (k d h).1 (k d h).2⟩, o, n, q.le mu l⟩
end

/-- where one stands -/
structure Jx where
  X : Cx
  W : WX
  anc : Anc
abbrev Jx.G (J : Jx) : Gc := ⟨J.X.K, J.X.mg⟩
section
variable {J : Jx} {α β γ δ : Type}
def PostR (J : Jx) (σ : L2.St) (env : En) (ω : Wd) (H : Hp) (Rl : Wd → Hp → α → β → Prop) (r : R α) (Q : β → Hp → Prop) : Prop := match r with
  | .ok a S' => ∀ b H' ω', Le ω H ω' H' → Sim J.G J.anc ω' env S' σ H' → Rl ω' H' a b → Q b H'
  | .ex e S' => ∀ cls od H' ω', Le ω H ω' H' → Sim J.G J.anc ω' env S' σ H' → RepX J.G ω' H' e cls od → J.W cls od σ H'
  | .stk => False
theorem PostR.from {σ : L2.St} {env : En} {ω ω1 : Wd} {H H1 : Hp} {Rl : Wd → Hp → α → β → Prop} {r : R α} {Q : β → Hp → Prop} (l : Le ω H ω1 H1) (h : PostR J σ env ω H Rl r Q) : PostR J σ env ω1 H1 Rl r Q := by
  cases r with
  | ok a S' => exact fun b H' ω' l' => h b H' ω' (l.trans l')
  | ex e S' => exact fun c o H' ω' l' => h c o H' ω' (l.trans l')
  | stk => exact h
theorem post_bind0 {σ : L2.St} {env : En} {ω : Wd} {H : Hp} {R1 : Wd → Hp → α → β → Prop} {R2 : Wd → Hp → γ → δ → Prop} {r : R α} {k : α → Sto → R γ} {Q : δ → Hp → Prop} {K : β → Hp → Prop}
    (h : PostR J σ env ω H R2 (r.bind k) Q) (hk : ∀ a S1 ω1 H1 b, Le ω H ω1 H1 → Sim J.G J.anc ω1 env S1 σ H1 → R1 ω1 H1 a b → PostR J σ env ω H R2 (k a S1) Q → K b H1) : PostR J σ env ω H R1 r K := by
  cases r with
  | ok a S' => exact fun b H' ω' l s q => hk a S' ω' H' b l s q h
  | ex e S' => exact h
  | stk => exact h
theorem post_bind1 {σ : L2.St} {env : En} {ω0 ω : Wd} {H0 H : Hp} {R1 : Wd → Hp → α → β → Prop} {R2 : Wd → Hp → γ → δ → Prop} {r : R α} {k : α → Sto → R γ} {Q : δ → Hp → Prop} {K : β → Hp → Prop}
    (l0 : Le ω0 H0 ω H) (h : PostR J σ env ω0 H0 R2 (r.bind k) Q) (hk : ∀ a S1 ω1 H1 b, Le ω H ω1 H1 → Sim J.G J.anc ω1 env S1 σ H1 → R1 ω1 H1 a b → PostR J σ env ω0 H0 R2 (k a S1) Q → K b H1) : PostR J σ env ω H R1 r K := by
  cases r with
  | ok a S' => exact fun b H' ω' l s q => hk a S' ω' H' b l s q h
  | ex e S' => exact fun c o H' ω' l => h c o H' ω' (l0.trans l)
  | stk => exact h
theorem post_bind {σ : L2.St} {env : En} {ω : Wd} {H : Hp} {R1 : Wd → Hp → α → β → Prop} {R2 : Wd → Hp → γ → δ → Prop} {r : R α} {k : α → Sto → R γ} {Q : δ → Hp → Prop} {K : β → Hp → Prop}
    (h : PostR J σ env ω H R2 (r.bind k) Q) (hk : ∀ a S1 ω1 H1 b, Le ω H ω1 H1 → Sim J.G J.anc ω1 env S1 σ H1 → R1 ω1 H1 a b → PostR J σ env ω1 H1 R2 (k a S1) Q → K b H1) : PostR J σ env ω H R1 r K := by
  cases r with
  | ok a S' => exact fun b H' ω' l s q => hk a S' ω' H' b l s q (PostR.from l h)
  | ex e S' => exact h
  | stk => exact h
abbrev SE := En → Sto → R D
abbrev SA := En → Sto → R (List D)
abbrev ST := En → Sto → R Bool
def canE (J : Jx) (st : Bool) (f : SE) : TE := fun σ H Q => ∃ ω env S, Sim J.G J.anc ω env S σ H ∧ PostR J σ env ω H (fun ω' H' d v => TRep J.G ω' H' env σ st d v) (f env S) Q
def canT (J : Jx) (f : ST) : TT := fun σ H Q => ∃ ω env S, Sim J.G J.anc ω env S σ H ∧ PostR J σ env ω H (fun _ _ (a b : Bool) => a = b) (f env S) Q
def canA (J : Jx) (st : Bool) (f : SA) : TA := fun σ H Q => ∃ ω env S, Sim J.G J.anc ω env S σ H ∧ PostR J σ env ω H (fun ω' H' d v => TReps J.G ω' H' env σ st d v) (f env S) Q
def PF (J : Jx) (st : Bool) (e : Expr) (f : SE) : Prop := PE J.X e (canE J st f)
def PFT (J : Jx) (e : Expr) (f : ST) : Prop := PT J.X e (canT J f)
def PFW (J : Jx) (e : Expr) (f : ST) : Prop := PW J.X e (canT J f)
def PFA (J : Jx) (st : Bool) (es : List Expr) (f : SA) : Prop := PA J.X es (canA J st f)
theorem PE.imp {X : Cx} {e : Expr} {t t' : TE} (h : PE X e t) (k : ∀ σ H Q, t' σ H Q → t σ H Q) : PE X e t' := ⟨fun pins s σ H Q I q => h.run pins s σ H Q I (k σ H Q q)⟩
theorem PT.imp {X : Cx} {e : Expr} {t t' : TT} (h : PT X e t) (k : ∀ σ H Q, t' σ H Q → t σ H Q) : PT X e t' := ⟨fun pins s σ H Q I q => h.run pins s σ H Q I (k σ H Q q)⟩
theorem PW.imp {X : Cx} {e : Expr} {t t' : TT} (h : PW X e t) (k : ∀ σ H Q, t' σ H Q → t σ H Q) : PW X e t' := ⟨fun wh pins s σ H Q I q => h.run wh pins s σ H Q I (k σ H Q q)⟩
theorem PA.imp {X : Cx} {es : List Expr} {t t' : TA} (h : PA X es t) (k : ∀ σ H Q, t' σ H Q → t σ H Q) : PA X es t' := ⟨fun p pins s σ H Q I q => h.run p pins s σ H Q I (k σ H Q q)⟩
theorem PF.any {st : Bool} {e : Expr} {f : SE} (h : PF J st e f) : PF J false e f := PE.imp h fun σ H Q ⟨ω, env, S, s, q⟩ => ⟨ω, env, S, s, by
  cases hf : f env S with
  | ok a S' => rw [hf] at q; exact fun b H' ω' l s' r => q b H' ω' l s' r.any
  | ex e S' => rw [hf] at q; exact q
  | stk => rw [hf] at q; exact q⟩

/-! ### names, constants -/
def sVar (i : Nat) : SE := fun env S => match env[i]? with
  | some (some (.val d)) => .ok d S
  | _ => .stk
def sOwn (i : Nat) : SE := fun env S => match env[i]? with
  | some (some (.own o)) => .ok (moD o) S
  | _ => .stk
def sC (d : D) : SE := fun _ S => .ok d S
theorem pf_var (i : Nat) {x : Str} {pos : Pos} (hN : J.X.N[i]? = some x := by rfl) (hv : Vis J.X.env.scope x := by first | exact Or.inl rfl | exact Or.inr (Or.inl rfl) | exact Or.inr (Or.inr rfl)) (hd : (x == ("__debug__" : Str)) = false := by decide)
    (hcd : (x == ("__classdict__" : Str)) = false := by decide) : PF J true (.Name x pos) (sVar i) := by
  refine PE.imp (pe_var hN hv hd hcd) fun σ H Q ⟨ω, env, S, s, q⟩ => ?_
  unfold sVar at q
  cases he : env[i]? with
  | none => rw [he] at q; exact q.elim
  | some o =>
    cases o with
    | none => rw [he] at q; exact q.elim
    | some sl =>
      cases sl with
      | own o => rw [he] at q; exact q.elim
      | val d =>
        rw [he] at q
        obtain ⟨v, e, r⟩ := s.vals i _ he
        exact ⟨v, e, q v H ω (Le.refl ω H) s (Or.inl r)⟩
theorem pf_own (i : Nat) {x : Str} {pos : Pos} (hN : J.X.N[i]? = some x := by rfl) (hv : Vis J.X.env.scope x := by first | exact Or.inl rfl | exact Or.inr (Or.inl rfl) | exact Or.inr (Or.inr rfl)) (hd : (x == ("__debug__" : Str)) = false := by decide)
    (hcd : (x == ("__classdict__" : Str)) = false := by decide) : PF J false (.Name x pos) (sOwn i) := by
  refine PE.imp (pe_var hN hv hd hcd) fun σ H Q ⟨ω, env, S, s, q⟩ => ?_
  unfold sOwn at q
  cases he : env[i]? with
  | none => rw [he] at q; exact q.elim
  | some o =>
    cases o with
    | none => rw [he] at q; exact q.elim
    | some sl =>
      cases sl with
      | val d => rw [he] at q; exact q.elim
      | own o =>
        rw [he] at q
        obtain ⟨v, e, r⟩ := s.vals i _ he
        exact ⟨v, e, q v H ω (Le.refl ω H) s (Or.inr ⟨rfl, i, o, he, rfl, e⟩)⟩
theorem can_const {d : D} {v : V} (h : ∀ G ω H, Rep G ω H d v) {σ : L2.St} {H : Hp} {Q : VK} (q : canE J true (sC d) σ H Q) : Q v H := by
  obtain ⟨ω, env, S, s, q⟩ := q
  exact q v H ω (Le.refl ω H) s (Or.inl (h _ _ _))
theorem pf_int {i : Int} {j : Nat} {pos : Pos} : PF J true (.Constant (.int i) j pos) (sC (.int i)) := PE.imp pe_int fun _ _ _ q => can_const (fun _ _ _ => .int) q
theorem pf_bl {b : Bool} {j : Nat} {pos : Pos} : PF J true (.Constant (.bool b) j pos) (sC (.bl b)) := PE.imp pe_bl fun _ _ _ q => can_const (fun _ _ _ => .bl) q
theorem pf_non {j : Nat} {pos : Pos} : PF J true (.Constant .none j pos) (sC .non) := PE.imp pe_non fun _ _ _ q => can_const (fun _ _ _ => .non) q
theorem pf_str {x : Str} {j : Nat} {pos : Pos} : PF J true (.Constant (.str x) j pos) (sC (.str x)) := PE.imp pe_str fun _ _ _ q => can_const (fun _ _ _ => .str) q
theorem pf_gint {x : Str} {i : Int} {t : Tok} {pos : Pos} (hm : J.X.mg x = some (.int i t)) (hg : Gl J.X x := by rfl) (hd : (x == ("__debug__" : Str)) = false := by decide) : PF J true (.Name x pos) (sC (.int i)) :=
  PE.imp (pe_glob (v := .int i) hg hm ⟨_, rfl⟩ hd) fun _ _ _ q => can_const (fun _ _ _ => .int) q
theorem pf_gstr {x : Str} {y : Str} {t : Tok} {pos : Pos} (hm : J.X.mg x = some (.str y t)) (hg : Gl J.X x := by rfl) (hd : (x == ("__debug__" : Str)) = false := by decide) : PF J true (.Name x pos) (sC (.str y)) :=
  PE.imp (pe_glob (v := .str y) hg hm ⟨_, rfl⟩ hd) fun _ _ _ q => can_const (fun _ _ _ => .str) q

/-! ### operators -/
abbrev G2 := Sto → D → D → R D
def sBin (g : G2) (fa fb : SE) : SE := fun env S => (fa env S).bind fun x S1 => (fb env S1).bind fun y S2 => g S2 x y
def OpD (J : Jx) (r : L2.R2) (g : G2) : Prop := ∀ (ω : Wd) (env : En) (S : Sto) (σ : L2.St) (H : Hp) (x y : D) (v u : V) (Q : VK), Sim J.G J.anc ω env S σ H → TRep J.G ω H env σ false x v → TRep J.G ω H env σ false y u →
  PostR J σ env ω H (fun ω' H' d v => TRep J.G ω' H' env σ true d v) (g S x y) Q → r v u H Q
theorem can_bin {r : L2.R2} {g : G2} {fa fb : SE} {s1 s2 : Bool} (hg : OpD J r g) {σ : L2.St} {H : Hp} {Q : VK} (q : canE J true (sBin g fa fb) σ H Q) : tOp r (canE J s1 fa) (canE J s2 fb) σ H Q := by
  obtain ⟨ω, env, S, s, h⟩ := q
  refine ⟨ω, env, S, s, post_bind h fun x S1 ω1 H1 v l1 sim1 r1 h1 => ?_⟩
  refine ⟨ω1, env, S1, sim1, post_bind h1 fun y S2 ω2 H2 u l2 sim2 r2 h2 => ?_⟩
  exact hg ω2 env S2 σ H2 x y v u Q sim2 (r1.any.le sim1.st.mu l2) r2.any h2
theorem pf_bin {op : Operator} {r : L2.R2} {g : G2} {a b : Expr} {fa fb : SE} {s1 s2 : Bool} {pos : Pos} (ho : OpR J.X (binaryOp op) r) (hg : OpD J r g) (ha : PF J s1 a fa) (hb : PF J s2 b fb) : PF J true (.BinOp a op b pos) (sBin g fa fb) :=
  PE.imp (pe_op ho ha hb) fun _ _ _ q => can_bin hg q
theorem pf_cmp {op : CmpOp} {r : L2.R2} {g : G2} {a b : Expr} {fa fb : SE} {s1 s2 : Bool} {pos : Pos} (ho : OpR J.X (compareOp op) r) (hg : OpD J r g) (ha : PF J s1 a fa) (hb : PF J s2 b fb) (hm : behindInMarks op b = false) : PF J true (.Compare a [op] [b] pos) (sBin g fa fb) :=
  PE.imp (pe_cmpR ho ha hb hm) fun _ _ _ q => can_bin hg q
/-- a value that must be a truth value -/
def asB (d : D) (S : Sto) : R Bool := match d with
  | .bl b => .ok b S
  | _ => .stk
def sTst (f : SE) : ST := fun env S => (f env S).bind asB
theorem can_tst {f : SE} {st : Bool} {σ : L2.St} {H : Hp} {Q : Bool → Hp → Prop} (q : canT J (sTst f) σ H Q) : canE J st f σ H fun x H' => ∃ k, x = .bl k ∧ Q k H' := by
  obtain ⟨ω, env, S, s, h⟩ := q
  refine ⟨ω, env, S, s, post_bind h fun x S1 ω1 H1 v l1 sim1 r1 h1 => ?_⟩
  cases x with
  | bl b =>
    rcases r1 with r1 | ⟨_, i, o, _, e, _⟩
    · cases r1
      exact ⟨b, rfl, h1 b H1 ω1 (Le.refl _ _) sim1 rfl⟩
    · cases o <;> cases e
  | _ => exact h1.elim
theorem canE_mono {f : SE} {st : Bool} {σ : L2.St} {H : Hp} {Q Q' : VK} (k : ∀ v H, Q v H → Q' v H) (q : canE J st f σ H Q) : canE J st f σ H Q' := by
  obtain ⟨ω, env, S, s, h⟩ := q
  refine ⟨ω, env, S, s, ?_⟩
  cases hf : f env S with
  | ok a S' => rw [hf] at h; exact fun b H' ω' l s' r => k _ _ (h b H' ω' l s' r)
  | ex e S' => rw [hf] at h; exact h
  | stk => rw [hf] at h; exact h
theorem pt_cmp' {op : CmpOp} {r : L2.R2} {g : G2} {a b : Expr} {fa fb : SE} {s1 s2 : Bool} {pos : Pos} (ho : OpR J.X (compareOp op) r) (hg : OpD J r g) (ha : PF J s1 a fa) (hb : PF J s2 b fb) (hm : behindInMarks op b = false) : PFT J (.Compare a [op] [b] pos) (sTst (sBin g fa fb)) :=
  PT.imp (pt_cmpR ho ha hb hm) fun _ _ _ q => can_bin hg (can_tst (st := true) q)
theorem pt_val' {e : Expr} {f : SE} {st : Bool} (h : PF J st e f) (he : ∀ whole, isTrue e J.X.env whole = (do let v ← whole; standAt e.pos; holding [v] (truthy v)) := by intro _; rfl) : PFT J e (sTst f) :=
  PT.imp (pt_val h he) fun _ _ _ q => can_tst q
/-! ### and, or, not -/
def sAndT (f g : ST) : ST := fun env S => (f env S).bind fun b S1 => if b then g env S1 else .ok false S1
def sOrT (f g : ST) : ST := fun env S => (f env S).bind fun b S1 => if b then .ok true S1 else g env S1
def sNotT (f : ST) : ST := fun env S => (f env S).bind fun b S1 => .ok (!b) S1
theorem pw_and1' {a : Expr} {f : ST} {pos : Pos} (ha : PFT J a f) : PFW J (.BoolOp .And [a] pos) f := pw_and1 ha
theorem pw_or1' {a : Expr} {f : ST} {pos : Pos} (ha : PFT J a f) : PFW J (.BoolOp .Or [a] pos) f := pw_or1 ha
theorem pw_and' {a b : Expr} {rest : List Expr} {f g : ST} {pos : Pos} (ha : PFT J a f) (hb : PFW J (.BoolOp .And (b :: rest) pos) g) : PFW J (.BoolOp .And (a :: b :: rest) pos) (sAndT f g) := by
  refine PW.imp (pw_and ha hb) fun σ H Q ⟨ω, env, S, s, h⟩ => ?_
  refine ⟨ω, env, S, s, post_bind h fun x S1 ω1 H1 v l1 sim1 r1 h1 => ?_⟩
  subst r1
  cases x with
  | true => exact ⟨ω1, env, S1, sim1, h1⟩
  | false => exact h1 false H1 ω1 (Le.refl _ _) sim1 rfl
theorem pw_or' {a b : Expr} {rest : List Expr} {f g : ST} {pos : Pos} (ha : PFT J a f) (hb : PFW J (.BoolOp .Or (b :: rest) pos) g) : PFW J (.BoolOp .Or (a :: b :: rest) pos) (sOrT f g) := by
  refine PW.imp (pw_or ha hb) fun σ H Q ⟨ω, env, S, s, h⟩ => ?_
  refine ⟨ω, env, S, s, post_bind h fun x S1 ω1 H1 v l1 sim1 r1 h1 => ?_⟩
  subst r1
  cases x with
  | false => exact ⟨ω1, env, S1, sim1, h1⟩
  | true => exact h1 true H1 ω1 (Le.refl _ _) sim1 rfl
theorem pw_pt {e : Expr} {f : ST} (h : PFW J e f) : PFT J e f := PW.pt h
theorem pt_not' {a : Expr} {f : ST} {pos : Pos} (ha : PFT J a f) : PFT J (.UnaryOp .Not a pos) (sNotT f) := by
  refine PT.imp (pt_not ha) fun σ H Q ⟨ω, env, S, s, h⟩ => ?_
  refine ⟨ω, env, S, s, post_bind h fun x S1 ω1 H1 v l1 sim1 r1 h1 => ?_⟩
  subst r1
  exact h1 (!x) H1 ω1 (Le.refl _ _) sim1 rfl
/-- as values -/
def sAndV (f g : SE) : SE := fun env S => (f env S).bind fun d S1 => match d with
  | .bl true => g env S1
  | .bl false => .ok (.bl false) S1
  | _ => .stk
def sOrV (f g : SE) : SE := fun env S => (f env S).bind fun d S1 => match d with
  | .bl false => g env S1
  | .bl true => .ok (.bl true) S1
  | _ => .stk
def sNotV (f : SE) : SE := fun env S => (f env S).bind fun d S1 => match d with
  | .bl b => .ok (.bl (!b)) S1
  | _ => .stk
theorem TRep.bl_inv {G : Gc} {ω : Wd} {H : Hp} {env : En} {σ : L2.St} {st : Bool} {b : Bool} {v : V} (r : TRep G ω H env σ st (.bl b) v) : v = .bl b := by
  rcases r with r | ⟨_, i, o, _, e, _⟩
  · cases r; rfl
  · cases o <;> cases e
theorem pf_one {op : BoolOp} {a : Expr} {st : Bool} {f : SE} {pos : Pos} (h : PF J st a f) : PF J st (.BoolOp op [a] pos) f := pe_one h
theorem pf_and {a b : Expr} {rest : List Expr} {f g : SE} {s1 : Bool} {pos : Pos} (ha : PF J s1 a f) (hb : PF J true (.BoolOp .And (b :: rest) pos) g) : PF J true (.BoolOp .And (a :: b :: rest) pos) (sAndV f g) := by
  refine PE.imp (pe_and ha hb) fun σ H Q ⟨ω, env, S, s, h⟩ => ?_
  refine ⟨ω, env, S, s, post_bind h fun x S1 ω1 H1 v l1 sim1 r1 h1 => ?_⟩
  cases x with
  | bl b =>
    have e := r1.bl_inv
    subst e
    refine ⟨b, rfl, ?_⟩
    cases b with
    | true => exact ⟨ω1, env, S1, sim1, h1⟩
    | false => exact h1 (.bl false) H1 ω1 (Le.refl _ _) sim1 (Or.inl Rep.bl)
  | _ => exact h1.elim
theorem pf_or {a b : Expr} {rest : List Expr} {f g : SE} {s1 : Bool} {pos : Pos} (ha : PF J s1 a f) (hb : PF J true (.BoolOp .Or (b :: rest) pos) g) : PF J true (.BoolOp .Or (a :: b :: rest) pos) (sOrV f g) := by
  refine PE.imp (pe_or ha hb) fun σ H Q ⟨ω, env, S, s, h⟩ => ?_
  refine ⟨ω, env, S, s, post_bind h fun x S1 ω1 H1 v l1 sim1 r1 h1 => ?_⟩
  cases x with
  | bl b =>
    have e := r1.bl_inv
    subst e
    refine ⟨b, rfl, ?_⟩
    cases b with
    | false => exact ⟨ω1, env, S1, sim1, h1⟩
    | true => exact h1 (.bl true) H1 ω1 (Le.refl _ _) sim1 (Or.inl Rep.bl)
  | _ => exact h1.elim
theorem pf_not {a : Expr} {f : SE} {s1 : Bool} {pos : Pos} (ha : PF J s1 a f) : PF J true (.UnaryOp .Not a pos) (sNotV f) := by
  refine PE.imp (pe_not ha) fun σ H Q ⟨ω, env, S, s, h⟩ => ?_
  refine ⟨ω, env, S, s, post_bind h fun x S1 ω1 H1 v l1 sim1 r1 h1 => ?_⟩
  cases x with
  | bl b =>
    have e := r1.bl_inv
    subst e
    exact ⟨b, rfl, h1 (.bl (!b)) H1 ω1 (Le.refl _ _) sim1 (Or.inl Rep.bl)⟩
  | _ => exact h1.elim
def sIfE (c : ST) (f g : SE) : SE := fun env S => (c env S).bind fun b S1 => if b then f env S1 else g env S1
theorem pf_if {c a b : Expr} {fc : ST} {f g : SE} {st : Bool} {pos : Pos} (hc : PFT J c fc) (ha : PF J st a f) (hb : PF J st b g) : PF J st (.IfExp c a b pos) (sIfE fc f g) := by
  refine PE.imp (pe_ifExp hc ha hb) fun σ H Q ⟨ω, env, S, s, h⟩ => ?_
  refine ⟨ω, env, S, s, post_bind h fun x S1 ω1 H1 v l1 sim1 r1 h1 => ?_⟩
  subst r1
  cases x with
  | true => exact ⟨ω1, env, S1, sim1, h1⟩
  | false => exact ⟨ω1, env, S1, sim1, h1⟩
/-! ### arguments -/
def sNil : SA := fun _ S => .ok [] S
def sCons (f : SE) (g : SA) : SA := fun env S => (f env S).bind fun x S1 => (g env S1).bind fun xs S2 => .ok (x :: xs) S2
theorem pfa_nil {st : Bool} : PFA J st [] sNil := PA.imp pa_nil fun σ H Q ⟨ω, env, S, s, h⟩ => h [] H ω (Le.refl _ _) s True.intro
theorem pfa_cons {st : Bool} {e : Expr} {es : List Expr} {f : SE} {g : SA} (ha : PF J st e f) (hr : PFA J st es g) (hs : starEach (e :: es) J.X.env = (false, eval e J.X.env) :: starEach es J.X.env := by rfl) : PFA J st (e :: es) (sCons f g) := by
  refine PA.imp (pa_cons ha hr hs) fun σ H Q ⟨ω, env, S, s, h⟩ => ?_
  refine ⟨ω, env, S, s, post_bind h fun x S1 ω1 H1 v l1 sim1 r1 h1 => ?_⟩
  refine ⟨ω1, env, S1, sim1, post_bind h1 fun y S2 ω2 H2 u l2 sim2 r2 h2 => ?_⟩
  exact h2 (v :: u) H2 ω2 (Le.refl _ _) sim2 ⟨r1.le sim1.st.mu l2, r2⟩
end
end PF

/-! PF, part c: statements, new lists, loops. -/
namespace PF
open PySem L2

inductive O where
  | nx (env : En) (S : Sto) | rt (d : D) (S : Sto) | bk (env : En) (S : Sto) | ct (env : En) (S : Sto) | ex (e : D) (env : En) (S : Sto) | stk
abbrev SS := En → Sto → O
def R.bindO {α : Type} (r : R α) (env : En) (k : α → Sto → O) : O := match r with
  | .ok a S => k a S
  | .ex e S => .ex e env S
  | .stk => .stk
@[simp] theorem R.bindO_ok {α : Type} (a : α) (S : Sto) (env : En) (k : α → Sto → O) : (R.ok a S).bindO env k = k a S := rfl
@[simp] theorem R.bindO_ex {α : Type} (e : D) (S : Sto) (env : En) (k : α → Sto → O) : (R.ex e S : R α).bindO env k = .ex e env S := rfl
@[simp] theorem R.bindO_stk {α : Type} (env : En) (k : α → Sto → O) : (R.stk : R α).bindO env k = .stk := rfl

section
variable {G : Gc} {ω ω' ω2 : Wd} {H H' H2 : Hp} {anc : Anc} {env : En} {S S' : Sto} {σ : L2.St}
/-! ### the slots -/
theorem Sim.set (s : Sim G anc ω env S σ H) (i : Nat) {sl : Sl} {v : V} (r : RepS G ω H anc.H sl v) (na : ∀ (o : MO) (a : Addr), sl = .own o → v = .ref a → ∀ (j : Nat) (u : MO), env[j]? = some (some (Sl.own u)) → σ[j]? = some (some (V.ref a)) → False) :
    Sim G anc ω (env.set i (some sl)) S (σ.set i (some v)) H := by
  have le := s.len
  refine ⟨s.le0, s.aud, s.gh, s.st, by rw [List.length_set, List.length_set]; exact le, fun j x e => ?_, fun j k o u a e1 e2 e3 e4 => ?_⟩
  · by_cases z : j = i
    · subst z
      have hj : j < env.length := by
        have := (List.getElem?_eq_some_iff.mp e).1
        rw [List.length_set] at this; exact this
      rw [List.getElem?_set_self hj] at e
      cases e
      exact ⟨v, List.getElem?_set_self (by omega), r⟩
    · rw [List.getElem?_set_ne (Ne.symm z)] at e
      obtain ⟨w, e1, q⟩ := s.vals j x e
      exact ⟨w, by rw [List.getElem?_set_ne (Ne.symm z)]; exact e1, q⟩
  · by_cases zj : j = i
    · by_cases zk : k = i
      · rw [zj, zk]
      · subst zj
        have hj : j < env.length := by
          have := (List.getElem?_eq_some_iff.mp e1).1
          rw [List.length_set] at this; exact this
        rw [List.getElem?_set_self hj] at e1
        rw [List.getElem?_set_self (by omega)] at e3
        rw [List.getElem?_set_ne (Ne.symm zk)] at e2 e4
        cases e1; cases e3
        exact (na _ _ rfl rfl k _ e2 e4).elim
    · by_cases zk : k = i
      · subst zk
        have hk : k < env.length := by
          have := (List.getElem?_eq_some_iff.mp e2).1
          rw [List.length_set] at this; exact this
        rw [List.getElem?_set_self hk] at e2
        rw [List.getElem?_set_self (by omega)] at e4
        rw [List.getElem?_set_ne (Ne.symm zj)] at e1 e3
        cases e2; cases e4
        exact (na _ _ rfl rfl j _ e1 e3).elim
      · rw [List.getElem?_set_ne (Ne.symm zj)] at e1 e3
        rw [List.getElem?_set_ne (Ne.symm zk)] at e2 e4
        exact s.ap j k o u a e1 e2 e3 e4
theorem Sim.setV (s : Sim G anc ω env S σ H) (i : Nat) {d : D} {v : V} (r : Rep G ω H d v) : Sim G anc ω (env.set i (some (.val d))) S (σ.set i (some v)) H :=
  s.set i (sl := .val d) r fun o a e => nomatch e

/-! ### fewer addresses to be shunned -/
mutual
theorem Rep.lessU (m : ∃ t, ω'.m = ω.m ++ t) (u : ∀ a, ω'.U a → ω.U a) {d : D} {v : V} (r : Rep G ω H d v) : Rep G ω' H d v := match r with
  | .non => .non
  | .bl => .bl
  | .int => .int
  | .str => .str
  | .tup h n r => .tup h (fun z => n (u _ z)) (Reps.lessU m u r)
  | .lst h n r => .lst h (fun z => n (u _ z)) (Reps.lessU m u r)
  | .scr h => .scr (h.imp (fun q => ⟨q.1, fun z => q.2 (u _ z)⟩) id)
  | .ref h => .ref (by
    obtain ⟨t, e⟩ := m
    rw [e, List.getElem?_append_left (List.getElem?_eq_some_iff.mp h).1]
    exact h)
  | .dct h e n r => .dct h e (fun z => n (u _ z)) (Reps.lessU m u r)
  | .exn g h n k o e r => .exn g h (fun z => n (u _ z)) (fun d q => ⟨(k d q).1, fun z => (k d q).2 (u _ z)⟩) o e (Reps.lessU m u r)
theorem Reps.lessU (m : ∃ t, ω'.m = ω.m ++ t) (u : ∀ a, ω'.U a → ω.U a) {d : List D} {v : List V} (r : Reps G ω H d v) : Reps G ω' H d v := match r with
  | .nil => .nil
  | .cons a b => .cons (Rep.lessU m u a) (Reps.lessU m u b)
end
theorem RepO.lessU (w2 : Wd) (m : ∃ t, w2.m = ω.m ++ t) (u : ∀ a, w2.U a → ω.U a) {o : MO} {a : Addr} (r : RepO G ω H o a) : RepO G w2 H o a := by
  cases o with
  | lst xs => obtain ⟨vs, h, q⟩ := r; exact ⟨vs, h, q.lessU m u⟩
  | dct ks xs => obtain ⟨vs, h, e, q⟩ := r; exact ⟨vs, h, e, q.lessU m u⟩
  | ins c ns xs => obtain ⟨C, dx, vs, g, h, e, q⟩ := r; exact ⟨C, dx, vs, g, h, e, q.lessU m u⟩
/-- a list or dict, as a value -/
theorem RepO.val {o : MO} {a : Addr} (hi : ∀ c ns xs, o ≠ .ins c ns xs) (n : ¬ ω.U a) (r : RepO G ω H o a) : Rep G ω H (moD o) (.ref a) := by
  cases o with
  | lst xs => obtain ⟨vs, h, q⟩ := r; exact .lst h n q
  | dct ks xs => obtain ⟨vs, h, e, q⟩ := r; exact .dct h e n q
  | ins c ns xs => exact (hi _ _ _ rfl).elim
/-- p is shunned no more -/
def Wd.out (ω : Wd) (p : Addr) : Wd := ⟨ω.m, ω.M, fun a => ω.U a ∧ a ≠ p⟩
theorem Sim0.out (t : Sim0 G ω S H) {p : Addr} (n : ¬ ω.M p) : Sim0 G (ω.out p) S H :=
  ⟨fun a h => ⟨t.mu a h, fun z => n (by rw [← z]; exact h)⟩, fun a h => t.ud a h.1, t.mem, t.nd, t.len, fun k o e => by
    obtain ⟨a, e1, r⟩ := t.obj k o e
    exact ⟨a, e1, RepO.lessU (ω := ω) (ω.out p) ⟨[], by simp [Wd.out]⟩ (fun _ h => h.1) r⟩⟩
/-- p is shunned from now on: it is new -/
def Wd.ins (ω : Wd) (p : Addr) : Wd := ⟨ω.m, ω.M, fun a => ω.U a ∨ a = p⟩
theorem Le.ins (l : Le ω H ω' H') {p : Addr} (h : H p = none) : Le ω H (ω'.ins p) H' :=
  ⟨l.mext, l.Mle, l.Mnew, fun a u => .inl (l.Ule a u), fun a u => by
    rcases u with u | rfl
    · exact l.Unew a u
    · exact .inr h, l.frame, l.dom⟩

/-- a new list or dict, not yet held by anything; H0: the heap ahead -/
def LRel (G : Gc) (H0 : Hp) (ω : Wd) (H : Hp) (o : MO) (v : V) : Prop := ∃ p, v = .ref p ∧ H0 p = none ∧ RepO G ω H o p ∧ ω.U p ∧ ¬ ω.M p ∧ ∀ c ns xs, o ≠ .ins c ns xs
end

section
variable {J : Jx}
abbrev SL := En → Sto → R MO
def canL (J : Jx) (f : SL) : TE := fun σ H Q => ∃ ω env S, Sim J.G J.anc ω env S σ H ∧ PostR J σ env ω H (fun ω' H' o v => LRel J.G H ω' H' o v) (f env S) Q
def PFL (J : Jx) (e : Expr) (f : SL) : Prop := PE J.X e (canL J f)
/-- the new thing as a value that nobody changes -/
def sVal (f : SL) : SE := fun env S => (f env S).bind fun o S1 => .ok (moD o) S1
theorem lrel_val {ω ω1 : Wd} {H H1 : Hp} {env : En} {S S1 : Sto} {σ : L2.St} {o : MO} {v : V} (s : Sim J.G J.anc ω env S σ H) (l : Le ω H ω1 H1) (s1 : Sim J.G J.anc ω1 env S1 σ H1) (r : LRel J.G H ω1 H1 o v) :
    ∃ ω2, Le ω H ω2 H1 ∧ Sim J.G J.anc ω2 env S1 σ H1 ∧ Rep J.G ω2 H1 (moD o) v := by
  obtain ⟨p, rfl, h0, r, u, n, hi⟩ := r
  have np : ∀ a, ω.U a → a ≠ p := fun a ha z => s.st.ud a ha (by rw [z]; exact h0)
  have l2 : Le ω H (ω1.out p) H1 := ⟨l.mext, l.Mle, l.Mnew, fun a ha => ⟨l.Ule a ha, np a ha⟩, fun a ha => l.Unew a ha.1, l.frame, l.dom⟩
  exact ⟨ω1.out p, l2, s.le l2 (s1.st.out n), RepO.val hi (fun z => z.2 rfl) (RepO.lessU (ω := ω1) (ω1.out p) ⟨[], by simp [Wd.out]⟩ (fun _ h => h.1) r)⟩
theorem pf_val {e : Expr} {f : SL} (h : PFL J e f) : PF J true e (sVal f) := by
  refine PE.imp h fun σ H Q ⟨ω, env, S, s, q⟩ => ⟨ω, env, S, s, post_bind0 q fun o S1 ω1 H1 v l1 s1 r1 h1 => ?_⟩
  obtain ⟨ω2, l2, s2, r2⟩ := lrel_val s l1 s1 r1
  exact h1 v H1 ω2 l2 s2 (Or.inl r2)
/-- the new thing, put into the store -/
def sNew (f : SL) : SE := fun env S => (f env S).bind fun o S1 => .ok (.ref S1.length) (S1 ++ [o])
def Wd.put (ω : Wd) (p : Addr) : Wd := ⟨ω.m ++ [p], fun a => ω.M a ∨ a = p, ω.U⟩
theorem lrel_new {ω ω1 : Wd} {H H1 : Hp} {env : En} {S S1 : Sto} {σ : L2.St} {o : MO} {v : V} (s : Sim J.G J.anc ω env S σ H) (l : Le ω H ω1 H1) (s1 : Sim J.G J.anc ω1 env S1 σ H1) (r : LRel J.G H ω1 H1 o v) :
    ∃ ω2, Le ω H ω2 H1 ∧ Sim J.G J.anc ω2 env (S1 ++ [o]) σ H1 ∧ Rep J.G ω2 H1 (.ref S1.length) v := by
  obtain ⟨p, rfl, h0, r, u, n, hi⟩ := r
  have mm : ∃ t, (ω1.put p).m = ω1.m ++ t := ⟨[p], rfl⟩
  have uu : ∀ a, (ω1.put p).U a → ω1.U a := fun _ h => h
  have l2 : Le ω H (ω1.put p) H1 := ⟨by
    obtain ⟨t, e⟩ := l.mext
    exact ⟨t ++ [p], by show ω1.m ++ [p] = _; rw [e, List.append_assoc]⟩, fun a h => .inl (l.Mle a h), fun a h => by
      rcases h with h | rfl
      · exact l.Mnew a h
      · exact .inr h0, l.Ule, l.Unew, l.frame, l.dom⟩
  have get : (ω1.put p).m[S1.length]? = some p := by
    show (ω1.m ++ [p])[S1.length]? = some p
    rw [← s1.st.len]
    simp
  refine ⟨ω1.put p, l2, ⟨s1.le0.mext.elim fun t e => ?_, s1.aud, fun q hq => (s1.gh q hq).lessU mm uu, ⟨fun a h => ?_, s1.st.ud, fun a h => ?_, ?_, ?_, fun k x e => ?_⟩, s1.len, fun i x e => ?_, s1.ap⟩, .ref get⟩
  · exact s.le0.trans l2
  · rcases h with h | rfl
    · exact s1.st.mu a h
    · exact u
  · rcases List.mem_append.mp h with h | h
    · exact .inl (s1.st.mem a h)
    · exact .inr (by simpa using h)
  · show (ω1.m ++ [p]).Nodup
    refine List.nodup_append.mpr ⟨s1.st.nd, by simp, fun a ha b hb => ?_⟩
    have e : b = p := by simpa using hb
    rw [e]
    rintro rfl
    exact n (s1.st.mem _ ha)
  · show (ω1.m ++ [p]).length = _
    rw [List.length_append, List.length_append, s1.st.len]
    rfl
  · by_cases hk : k < S1.length
    · rw [List.getElem?_append_left hk] at e
      obtain ⟨a, ha, q⟩ := s1.st.obj k x e
      refine ⟨a, ?_, RepO.lessU (ω := ω1) (ω1.put p) mm uu q⟩
      show (ω1.m ++ [p])[k]? = some a
      rw [List.getElem?_append_left (by rw [s1.st.len]; exact hk)]
      exact ha
    · have hk2 : k = S1.length := by
        have := (List.getElem?_eq_some_iff.mp e).1
        rw [List.length_append] at this
        simp at this
        omega
      subst hk2
      simp at e
      subst e
      exact ⟨p, get, RepO.lessU (ω := ω1) (ω1.put p) mm uu r⟩
  · obtain ⟨w, ew, q⟩ := s1.vals i x e
    refine ⟨w, ew, ?_⟩
    cases x with
    | val d => exact Rep.lessU mm uu q
    | own y =>
      obtain ⟨a, ea, ry, ua, na, fa⟩ := q
      refine ⟨a, ea, RepO.lessU (ω := ω1) (ω1.put p) mm uu ry, ua, fun z => ?_, fa⟩
      rcases z with z | rfl
      · exact na z
      · obtain ⟨w', ew', q'⟩ := s.vals i _ e
        obtain ⟨a', ea', ry', _⟩ := q'
        rw [ew] at ew'
        cases ew'
        rw [ea] at ea'
        cases ea'
        obtain ⟨x', hx'⟩ := ry'.some
        rw [h0] at hx'
        cases hx'
theorem pf_new {e : Expr} {f : SL} (h : PFL J e f) : PF J true e (sNew f) := by
  refine PE.imp h fun σ H Q ⟨ω, env, S, s, q⟩ => ⟨ω, env, S, s, post_bind0 q fun o S1 ω1 H1 v l1 s1 r1 h1 => ?_⟩
  obtain ⟨ω2, l2, s2, r2⟩ := lrel_new s l1 s1 r1
  exact h1 v H1 ω2 l2 s2 (Or.inl r2)

/-! ### statements -/
def PostS (J : Jx) (o : O) (D : Ends) : Prop := match o with
  | .nx env S => ∀ σ H ω, Sim J.G J.anc ω env S σ H → D.nx σ H
  | .rt d S => ∀ v H ω, Le J.anc.w0 J.anc.H ω H → Sim0 J.G ω S H → Rep J.G ω H d v → D.rt v H
  | .bk env S => ∀ σ H ω, Sim J.G J.anc ω env S σ H → D.bk σ H
  | .ct env S => ∀ σ H ω, Sim J.G J.anc ω env S σ H → D.ct σ H
  | .ex e env S => ∀ cls od σ H ω, Sim J.G J.anc ω env S σ H → RepX J.G ω H e cls od → J.W cls od σ H
  | .stk => False
def canS (J : Jx) (f : SS) : TS := fun D σ H => ∃ ω env S, Sim J.G J.anc ω env S σ H ∧ PostS J (f env S) D
def PFS (J : Jx) (st : Stmt) (f : SS) : Prop := PS J.X st (canS J f)
def PFB (J : Jx) (b : List Stmt) (f : SS) : Prop := PSs J.X b (canS J f)
theorem PS.imp {X : Cx} {e : Stmt} {t t' : TS} (h : PS X e t) (k : ∀ D σ H, t' D σ H → t D σ H) : PS X e t' := ⟨fun pins s σ H D I q => h.run pins s σ H D I (k D σ H q)⟩
theorem PSs.imp {X : Cx} {e : List Stmt} {t t' : TS} (h : PSs X e t) (k : ∀ D σ H, t' D σ H → t D σ H) : PSs X e t' := ⟨fun pins s σ H D I q => h.run pins s σ H D I (k D σ H q)⟩
section
variable {α β : Type} {σ : L2.St} {env : En} {ω : Wd} {H : Hp} {S : Sto}
theorem post_bindO0 {R1 : Wd → Hp → α → β → Prop} {r : R α} {k : α → Sto → O} {D : Ends} {K : β → Hp → Prop} (h : PostS J (r.bindO env k) D)
    (hk : ∀ a S1 ω1 H1 b, Le ω H ω1 H1 → Sim J.G J.anc ω1 env S1 σ H1 → R1 ω1 H1 a b → PostS J (k a S1) D → K b H1) : PostR J σ env ω H R1 r K := by
  cases r with
  | ok a S' => exact fun b H' ω' l s q => hk a S' ω' H' b l s q h
  | ex e S' => exact fun c o H' ω' l s r => h c o σ H' ω' s r
  | stk => exact h
end
def sNx : SS := fun env S => .nx env S
theorem pb_nil : PFB J [] sNx := PSs.imp pss_nil fun D σ H ⟨ω, env, S, s, q⟩ => q σ H ω s
def sSeq (f g : SS) : SS := fun env S => match f env S with
  | .nx env' S' => g env' S'
  | o => o
theorem PostS.seq {f g : SS} {env : En} {S : Sto} {D : Ends} (q : PostS J (sSeq f g env S) D) : PostS J (f env S) { D with nx := canS J g D } := by
  unfold sSeq at q
  cases hf : f env S with
  | nx e S' => rw [hf] at q; exact fun σ H ω s => ⟨ω, e, S', s, q⟩
  | rt d S' => rw [hf] at q; exact q
  | bk e S' => rw [hf] at q; exact q
  | ct e S' => rw [hf] at q; exact q
  | ex x e S' => rw [hf] at q; exact q
  | stk => rw [hf] at q; exact q
theorem pb_cons {st : Stmt} {rest : List Stmt} {f g : SS} (h1 : PFS J st f) (h2 : PFB J rest g) : PFB J (st :: rest) (sSeq f g) :=
  PSs.imp (pss_cons h1 h2) fun D σ H ⟨ω, env, S, s, q⟩ => ⟨ω, env, S, s, q.seq⟩
theorem pb_one {st : Stmt} {f : SS} (h1 : PFS J st f) : PFB J [st] f := pss_one h1
theorem pfs_pass {pos : Pos} : PFS J (.Pass pos) sNx := PS.imp ps_pass fun D σ H ⟨ω, env, S, s, q⟩ => q σ H ω s
def sBk : SS := fun env S => .bk env S
def sCt : SS := fun env S => .ct env S
theorem pfs_break {pos : Pos} : PFS J (.Break pos) sBk := PS.imp ps_break fun D σ H ⟨ω, env, S, s, q⟩ => q σ H ω s
theorem pfs_continue {pos : Pos} : PFS J (.Continue pos) sCt := PS.imp ps_continue fun D σ H ⟨ω, env, S, s, q⟩ => q σ H ω s
def sExp (f : SE) : SS := fun env S => (f env S).bindO env fun _ S1 => .nx env S1
theorem pfs_expr {e : Expr} {f : SE} {st : Bool} {pos : Pos} (he : PF J st e f) (hs : swapsWith e none pos.line J.X.env = pure false := by rfl) : PFS J (.Expr e pos) (sExp f) :=
  PS.imp (ps_expr he hs) fun D σ H ⟨ω, env, S, s, q⟩ => ⟨ω, env, S, s, post_bindO0 q fun d S1 ω1 H1 v l1 s1 r1 h1 => h1 σ H1 ω1 s1⟩
def sRet (f : SE) : SS := fun env S => (f env S).bindO env fun d S1 => .rt d S1
theorem pfs_ret {e : Expr} {f : SE} {pos : Pos} (he : PF J true e f) : PFS J (.Return (some e) pos) (sRet f) :=
  PS.imp (ps_ret he) fun D σ H ⟨ω, env, S, s, q⟩ => ⟨ω, env, S, s, post_bindO0 q fun d S1 ω1 H1 v l1 s1 r1 h1 => h1 v H1 ω1 s1.le0 s1.st (TRep.rep r1)⟩
def sRetN : SS := fun _ S => .rt .non S
theorem pfs_retN {pos : Pos} : PFS J (.Return none pos) sRetN := PS.imp ps_retN fun D σ H ⟨ω, env, S, s, q⟩ => q .non H ω s.le0 s.st .non
def sIfS (c : ST) (f g : SS) : SS := fun env S => (c env S).bindO env fun b S1 => if b then f env S1 else g env S1
theorem pfs_if {c : Expr} {a b : List Stmt} {fc : ST} {f g : SS} {pos : Pos} (hc : PFT J c fc) (ha : PFB J a f) (hb : PFB J b g) : PFS J (.If c a b pos) (sIfS fc f g) := by
  refine PS.imp (ps_if hc ha hb) fun D σ H ⟨ω, env, S, s, q⟩ => ⟨ω, env, S, s, post_bindO0 q fun d S1 ω1 H1 v l1 s1 r1 h1 => ?_⟩
  subst r1
  cases d with
  | true => exact ⟨ω1, env, S1, s1, h1⟩
  | false => exact ⟨ω1, env, S1, s1, h1⟩
def sSet (i : Nat) (f : SE) : SS := fun env S => (f env S).bindO env fun d S1 => .nx (env.set i (some (.val d))) S1
theorem pfs_set (i : Nat) {x : Str} {e : Expr} {f : SE} {pos pos' : Pos} (he : PF J true e f) (hN : J.X.N.Nodup) (hi : J.X.N[i]? = some x := by rfl) (hx : Loc J.X.env.scope x := by first | exact Or.inl rfl | exact Or.inr rfl) (hs : swapsWith e (some (.Name x pos')) pos.line J.X.env = pure false := by rfl)
    (hf : J.X.fn x = true ∨ J.X.env.scope.names.lookup x = some .local := by first | exact .inl rfl | exact .inr rfl | assumption) : PFS J (.Assign [.Name x pos'] e pos) (sSet i f) :=
  PS.imp (ps_set hN hi hx he hs hf) fun D σ H ⟨ω, env, S, s, q⟩ => ⟨ω, env, S, s, post_bindO0 q fun d S1 ω1 H1 v l1 s1 r1 h1 => h1 _ H1 ω1 (s1.setV i (TRep.rep r1))⟩
/-- name = a new list or dict that this frame alone holds and may change -/
def sSetO (i : Nat) (f : SL) : SS := fun env S => (f env S).bindO env fun o S1 => .nx (env.set i (some (.own o))) S1
theorem pfs_setO (i : Nat) {x : Str} {e : Expr} {f : SL} {pos pos' : Pos} (he : PFL J e f) (hN : J.X.N.Nodup) (hi : J.X.N[i]? = some x := by rfl) (hx : Loc J.X.env.scope x := by first | exact Or.inl rfl | exact Or.inr rfl) (hs : swapsWith e (some (.Name x pos')) pos.line J.X.env = pure false := by rfl)
    (hf : J.X.fn x = true ∨ J.X.env.scope.names.lookup x = some .local := by first | exact .inl rfl | exact .inr rfl | assumption) : PFS J (.Assign [.Name x pos'] e pos) (sSetO i f) :=
  PS.imp (ps_set hN hi hx he hs hf) fun D σ H ⟨ω, env, S, s, q⟩ => ⟨ω, env, S, s, post_bindO0 q fun o S1 ω1 H1 v l1 s1 r1 h1 => by
    obtain ⟨p, rfl, h0, r, u, n, hi⟩ := r1
    refine h1 _ H1 ω1 (s1.set i (sl := .own o) ⟨p, rfl, r, u, n, s.le0.dom p h0⟩ fun o' a e1 e2 j y ey es => ?_)
    cases e2
    obtain ⟨w, ew, a', ea, ry, _⟩ := s.vals j _ ey
    rw [es] at ew
    cases ew
    cases ea
    obtain ⟨z, hz⟩ := ry.some
    rw [h0] at hz
    cases hz⟩
/-- an owned thing is not changed any more -/
def frz (i : Nat) (env : En) : En := match env[i]? with
  | some (some (.own o)) => env.set i (some (.val (moD o)))
  | _ => env
theorem Sim.frz {ω : Wd} {env : En} {S : Sto} {σ : L2.St} {H : Hp} (i : Nat) (s : Sim J.G J.anc ω env S σ H) (hi : ∀ c ns xs, env[i]? ≠ some (some (.own (.ins c ns xs)))) : ∃ ω2, Sim J.G J.anc ω2 (frz i env) S σ H := by
  unfold PF.frz
  cases he : env[i]? with
  | none => exact ⟨ω, s⟩
  | some o =>
    cases o with
    | none => exact ⟨ω, s⟩
    | some sl =>
      cases sl with
      | val d => exact ⟨ω, s⟩
      | own o =>
        obtain ⟨v, ev, a, ea, r, u, n, f⟩ := s.vals i _ he
        subst ea
        have mm : ∃ t, (ω.out a).m = ω.m ++ t := ⟨[], by simp [Wd.out]⟩
        have uu : ∀ b, (ω.out a).U b → ω.U b := fun _ h => h.1
        have lt : i < env.length := (List.getElem?_eq_some_iff.mp he).1
        refine ⟨ω.out a, ⟨⟨s.le0.mext, s.le0.Mle, s.le0.Mnew, fun b hb => ⟨s.le0.Ule b hb, fun z => s.aud b hb (by rw [z]; exact f)⟩, fun b hb => s.le0.Unew b hb.1, s.le0.frame, s.le0.dom⟩, s.aud, fun q hq => (s.gh q hq).lessU mm uu, s.st.out n, by rw [List.length_set]; exact s.len, fun j x e => ?_, fun j k x y b e1 e2 e3 e4 => ?_⟩⟩
        · by_cases z : j = i
          · subst z
            rw [List.getElem?_set_self lt] at e
            cases e
            exact ⟨_, ev, RepO.val (fun c ns xs z => hi c ns xs (by rw [he, z])) (fun z => z.2 rfl) (RepO.lessU (ω := ω) (ω.out a) mm uu r)⟩
          · rw [List.getElem?_set_ne (Ne.symm z)] at e
            obtain ⟨w, ew, q⟩ := s.vals j x e
            refine ⟨w, ew, ?_⟩
            cases x with
            | val d => exact Rep.lessU mm uu q
            | own y =>
              obtain ⟨b, eb, rb, ub, nb, fb⟩ := q
              subst eb
              exact ⟨b, rfl, RepO.lessU (ω := ω) (ω.out a) mm uu rb, ⟨ub, fun w => z (by subst w; exact s.ap j i _ _ _ e he ew ev)⟩, nb, fb⟩
        · have own : ∀ {l : Nat} {o'' : MO}, (env.set i (some (Sl.val (moD o))))[l]? = some (some (.own o'')) → env[l]? = some (some (.own o'')) := fun {l o''} q => by
            by_cases z : l = i
            · subst z
              rw [List.getElem?_set_self lt] at q
              cases q
            · rw [List.getElem?_set_ne (Ne.symm z)] at q; exact q
          exact s.ap j k _ _ _ (own e1) (own e2) e3 e4
/-- ahead of a statement the owned thing of the i-th slot is let go -/
def sFrz (i : Nat) (f : SS) : SS := fun env S => match env[i]? with
  | some (some (.own (.ins _ _ _))) => .stk
  | _ => f (frz i env) S
theorem pfs_frz (i : Nat) {st : Stmt} {f : SS} (h : PFS J st f) : PFS J st (sFrz i f) := by
  refine PS.imp h fun D σ H ⟨ω, env, S, s, q⟩ => ?_
  by_cases hi : ∃ c ns xs, env[i]? = some (some (.own (.ins c ns xs)))
  · obtain ⟨c, ns, xs, e⟩ := hi
    unfold sFrz at q
    rw [e] at q
    exact q.elim
  · obtain ⟨ω2, s2⟩ := s.frz i fun c ns xs e => hi ⟨c, ns, xs, e⟩
    refine ⟨ω2, frz i env, S, s2, ?_⟩
    unfold sFrz at q
    split at q
    · exact q.elim
    · exact q
/-! ### targets -/
abbrev SG := D → En → Option En
abbrev SGs := List D → En → Option En
/-- of two states of the slots: all but those of ts are the same -/
def Off (ts : List Nat) (a b : L2.St) : Prop := (∀ j, j ∉ ts → b[j]? = a[j]?) ∧ b.length = a.length
theorem Off.refl (ts : List Nat) (a : L2.St) : Off ts a a := ⟨fun _ _ => rfl, rfl⟩
theorem Off.trans {t1 t2 : List Nat} {a b c : L2.St} (x : Off t1 a b) (y : Off t2 b c) : Off (t1 ++ t2) a c :=
  ⟨fun j h => (y.1 j fun z => h (List.mem_append_right _ z)).trans (x.1 j fun z => h (List.mem_append_left _ z)), y.2.trans x.2⟩
def canG (J : Jx) (ts : List Nat) (g : SG) : TG := fun v σ H Q => ∃ ω env S d, Sim J.G J.anc ω env S σ H ∧ Rep J.G ω H d v ∧ ∃ env', g d env = some env' ∧ ∀ σ', Sim J.G J.anc ω env' S σ' H → Off ts σ σ' → Q σ' H
def canGs (J : Jx) (ts : List Nat) (g : SGs) : TGs := fun vs σ H Q => ∃ ω env S ds, Sim J.G J.anc ω env S σ H ∧ Reps J.G ω H ds vs ∧ ∃ env', g ds env = some env' ∧ ∀ σ', Sim J.G J.anc ω env' S σ' H → Off ts σ σ' → Q σ' H
def PFG (J : Jx) (ts : List Nat) (tg : Expr) (g : SG) : Prop := PG J.X tg (canG J ts g)
def PFGs (J : Jx) (ts : List Nat) (tgs : List Expr) (g : SGs) : Prop := PGs J.X tgs (canGs J ts g)
theorem PG.imp {X : Cx} {e : Expr} {t t' : TG} (h : PG X e t) (k : ∀ v σ H Q, t' v σ H Q → t v σ H Q) : PG X e t' := ⟨fun pins s σ H v u Q I r q => h.run pins s σ H v u Q I r (k v σ H Q q)⟩
theorem PGs.imp {X : Cx} {e : List Expr} {t t' : TGs} (h : PGs X e t) (k : ∀ v σ H Q, t' v σ H Q → t v σ H Q) : PGs X e t' := ⟨fun pins s σ H v u Q I r q => h.run pins s σ H v u Q I r (k v σ H Q q)⟩
def gNm (i : Nat) : SG := fun d env => some (env.set i (some (.val d)))
theorem pfg_name (i : Nat) {x : Str} {pos : Pos} (hN : J.X.N.Nodup) (hi : J.X.N[i]? = some x := by rfl) (hx : Loc J.X.env.scope x := by first | exact Or.inl rfl | exact Or.inr rfl)
    (hf : J.X.fn x = true ∨ J.X.env.scope.names.lookup x = some .local := by first | exact .inl rfl | exact .inr rfl | assumption) : PFG J [i] (.Name x pos) (gNm i) :=
  PG.imp (pg_name hN hi hx hf) fun v σ H Q ⟨ω, env, S, d, s, r, env', e, q⟩ => by
    cases e
    exact q _ (s.setV i r) ⟨fun j h => List.getElem?_set_ne fun z => h (by simp [z]), List.length_set⟩
def gsNil : SGs := fun ds env => match ds with
  | [] => some env
  | _ => none
def gsCons (g : SG) (gs : SGs) : SGs := fun ds env => match ds with
  | [] => none
  | d :: ds => match g d env with
    | some env1 => gs ds env1
    | none => none
theorem pfgs_nil : PFGs J [] [] gsNil := PGs.imp pgs_nil fun v σ H Q ⟨ω, env, S, ds, s, r, env', e, q⟩ => by
  cases ds with
  | nil => cases r; cases e; exact ⟨rfl, q σ s (Off.refl _ _)⟩
  | cons a b => cases e
theorem pfgs_cons {t1 t2 : List Nat} {e : Expr} {es : List Expr} {g : SG} {gs : SGs} (h1 : PFG J t1 e g) (h2 : PFGs J t2 es gs)
    (hs : (assignEach (e :: es) J.X.env).map (·.2) = assign e J.X.env :: (assignEach es J.X.env).map (·.2) := by rfl) : PFGs J (t1 ++ t2) (e :: es) (gsCons g gs) := by
  refine PGs.imp (pgs_cons h1 h2 hs) fun v σ H Q ⟨ω, env, S, ds, s, r, env', e, q⟩ => ?_
  cases ds with
  | nil => cases e
  | cons a b =>
    cases r with
    | cons ra rb =>
      refine ⟨_, _, rfl, ω, env, S, a, s, ra, ?_⟩
      unfold gsCons at e
      cases hg : g a env with
      | none =>
        simp only [hg] at e
        cases e
      | some env1 =>
        simp only [hg] at e
        exact ⟨env1, rfl, fun σ' s' o1 => ⟨ω, env1, S, b, s', rb, env', e, fun σ2 s2 o2 => q σ2 s2 (o1.trans o2)⟩⟩
def gTp (n : Nat) (gs : SGs) : SG := fun d env => match d with
  | .tup ds => if ds.length = n then gs ds env else none
  | _ => none
theorem pfg_tup {ts : List Nat} {es : List Expr} {k n : Nat} {pos : Pos} {gs : SGs} (h : PFGs J ts es gs) (hc : J.X.calm = true := by rfl)
    (hn : (assignEach es J.X.env).length = n := by rfl) (hst : (assignEach es J.X.env).findIdx? (·.1) = none := by rfl) : PFG J ts (.Tuple es k pos) (gTp n gs) := by
  refine PG.imp (pg_tup hc h hn hst) fun v σ H Q ⟨ω, env, S, d, s, r, env', e, q⟩ => ?_
  cases d with
  | tup ds =>
    unfold gTp at e
    simp only at e
    split at e
    · cases r with
      | tup ha nu rs => exact ⟨_, _, rfl, SqT.of ha, by rw [← rs.length]; assumption, ω, env, S, ds, s, rs, env', e, q⟩
    · cases e
  | _ => cases e
def sAsg (f : SE) (g : SG) : SS := fun env S => (f env S).bindO env fun d S1 => match g d env with
  | some env' => .nx env' S1
  | none => .stk
theorem pfs_asg {ts : List Nat} {tg e : Expr} {f : SE} {g : SG} {pos : Pos} (he : PF J true e f) (hg : PFG J ts tg g) (hs : swapsWithSole [tg] e pos.line J.X.env = pure false := by rfl) (hw : swappedStores [tg] e J.X.env = pure none := by rfl)
    (h1 : (assignEach [tg] J.X.env).map (·.2) = [assign tg J.X.env] := by rfl) : PFS J (.Assign [tg] e pos) (sAsg f g) := by
  refine PS.imp (ps_asg he hg hs hw h1) fun D σ H ⟨ω, env, S, s, q⟩ => ⟨ω, env, S, s, post_bindO0 q fun d S1 ω1 H1 v l1 s1 r1 h1 => ?_⟩
  cases hg : g d env with
  | none => simp only [hg] at h1; exact h1.elim
  | some env' =>
    simp only [hg] at h1
    exact ⟨ω1, env, S1, d, s1, TRep.rep r1, env', hg, fun σ' s' _ => h1 σ' H1 ω1 s'⟩
end
end PF

/-! PF, part d: loops, comprehensions. -/
namespace PF
open PySem L2

def Gh (G : Gc) (ω : Wd) (H : Hp) (Γ : List (D × V)) : Prop := ∀ p ∈ Γ, Rep G ω H p.1 p.2
/-- an iterator that gives xs, while Γ stands -/
structure WalkD (G : Gc) (I : It) (xs : List D) (Γ : List (D × V)) : Prop where
  go : ∀ (i : Nat) H ω, i < xs.length → Gh G ω H Γ → I.go i H
  stop : ∀ H ω, Gh G ω H Γ → I.stop xs.length H
  yld : ∀ (i : Nat) H ω x H', i < xs.length → Gh G ω H Γ → (∀ a, ω.U a → H a ≠ none) → I.yld i H x H' → (H' = H ∨ ∃ T o, H T = none ∧ H' = upd H T o) ∧ ∃ d, xs[i]? = some d ∧ Rep G ω H' d x
def Jx.wg (J : Jx) (Γ : List (D × V)) : Jx := ⟨J.X, J.W, ⟨J.anc.w0, J.anc.H, Γ ++ J.anc.gh⟩⟩
section
variable {J : Jx} {ω : Wd} {H : Hp} {env : En} {S : Sto} {σ : L2.St} {Γ : List (D × V)}
theorem Sim.addGh (s : Sim J.G J.anc ω env S σ H) (g : Gh J.G ω H Γ) : Sim J.G (J.wg Γ).anc ω env S σ H :=
  ⟨s.le0, s.aud, fun p hp => (List.mem_append.mp hp).elim (g p) (s.gh p), s.st, s.len, s.vals, s.ap⟩
theorem Sim.dropGh (s : Sim J.G (J.wg Γ).anc ω env S σ H) : Sim J.G J.anc ω env S σ H :=
  ⟨s.le0, s.aud, fun p hp => s.gh p (List.mem_append_right _ hp), s.st, s.len, s.vals, s.ap⟩
theorem Sim.gamma (s : Sim J.G (J.wg Γ).anc ω env S σ H) : Gh J.G ω H Γ := fun p hp => s.gh p (List.mem_append_left _ hp)
theorem PSs.some {X : Cx} {b : List Stmt} {ι : Type} {t : ι → TS} (h : ∀ i, PSs X b (t i)) : PSs X b (fun D σ H => ∃ i, t i D σ H) := ⟨fun pins s σ H D I ⟨i, q⟩ => (h i).run pins s σ H D I q⟩
theorem PG.some {X : Cx} {e : Expr} {ι : Type} {t : ι → TG} (h : ∀ i, PG X e (t i)) : PG X e (fun v σ H Q => ∃ i, t i v σ H Q) := ⟨fun pins s σ H v u Q I r ⟨i, q⟩ => (h i).run pins s σ H v u Q I r q⟩
theorem PE.some {X : Cx} {e : Expr} {ι : Type} {t : ι → TE} (h : ∀ i, PE X e (t i)) : PE X e (fun σ H Q => ∃ i, t i σ H Q) := ⟨fun pins s σ H Q I ⟨i, q⟩ => (h i).run pins s σ H Q I q⟩

abbrev SI := En → Sto → R (List D)
def canI (J : Jx) (f : SI) : TI := fun σ H R => ∃ ω env S, Sim J.G J.anc ω env S σ H ∧ PostR J σ env ω H (fun ω' H' xs (b : It × List (D × V)) => Gh J.G ω' H' b.2 ∧ WalkD J.G b.1 xs b.2) (f env S) fun b H' => R b.1 H'
def PFI (J : Jx) (tg e : Expr) (f : SI) : Prop := PI J.X tg e (canI J f)
theorem PI.imp {X : Cx} {tg e : Expr} {t t' : TI} (h : PI X tg e t) (k : ∀ σ H Q, t' σ H Q → t σ H Q) : PI X tg e t' := ⟨fun pins s σ H Q I q => h.run pins s σ H Q I (k σ H Q q)⟩
def forS (g : SG) (body : SS) : List D → SS
  | [], env, S => .nx env S
  | d :: ds, env, S => match g d env with
    | none => .stk
    | some env1 => match body env1 S with
      | .nx e S' => forS g body ds e S'
      | .ct e S' => forS g body ds e S'
      | .bk e S' => .nx e S'
      | .rt v S' => .rt v S'
      | .ex x e S' => .ex x e S'
      | .stk => .stk
def sFor (fi : SI) (g : SG) (body : SS) : SS := fun env S => (fi env S).bindO env fun xs S1 => forS g body xs env S1
theorem pfs_for {tg iter : Expr} {body : List Stmt} {fi : SI} {ts : List Nat} {g : SG} {fb : SS} {pos : Pos} (hp : PassesOwn (model J.X.prog J.X.w) J.X.A J.X.env J.X.xe) (hi : PFI J tg iter fi) (hg : ∀ Γ, PFG (J.wg Γ) ts tg g) (hb : ∀ Γ, PFB (J.wg Γ) body fb) (hc : J.X.calm = true := by rfl)
    (hs : ∀ x, foldedSetIterable iter J.X.env x = pure x := by intro _; rfl) : PFS J (.For tg iter body [] pos) (sFor fi g fb) := by
  refine PS.imp (ps_for hp hc hi (PG.some hg) (PSs.some hb) hs) fun D σ H ⟨ω, env, S, s, q⟩ => ⟨ω, env, S, s, post_bindO0 q fun xs S1 ω1 H1 b l1 s1 r1 h1 => ?_⟩
  obtain ⟨I, Γ⟩ := b
  obtain ⟨g1, wk⟩ := r1
  refine ⟨fun i m σ H => ∃ ω env S, m = xs.length - i ∧ i ≤ xs.length ∧ Sim J.G (J.wg Γ).anc ω env S σ H ∧ PostS J (forS g fb (xs.drop i) env S) D, ⟨xs.length, ω1, env, S1, by simp, Nat.zero_le _, s1.addGh g1, h1⟩, ?_⟩
  rintro i m σ H ⟨ω, env, S, rfl, hi, s, h⟩
  by_cases lt : i < xs.length
  · refine .inr ⟨wk.go i H ω lt s.gamma, fun σ' H' => ∃ ω env S, i + 1 ≤ xs.length ∧ Sim J.G (J.wg Γ).anc ω env S σ' H' ∧ PostS J (forS g fb (xs.drop (i + 1)) env S) D, fun σ' H' ⟨ω, env, S, a, b, c⟩ => ⟨xs.length - (i + 1), by omega, ω, env, S, rfl, a, b, c⟩, fun x H' y => ?_⟩
    obtain ⟨hh, d, hd, rd⟩ := wk.yld i H ω x H' lt s.gamma s.st.ud y
    have s' : Sim J.G (J.wg Γ).anc ω env S σ H' := by
      rcases hh with rfl | ⟨T, o, n, rfl⟩
      · exact s
      · exact s.new n
    have ed : xs.drop i = d :: xs.drop (i + 1) := by
      rw [List.drop_eq_getElem_cons lt]
      rw [List.getElem?_eq_getElem lt] at hd
      cases hd
      rfl
    rw [ed] at h
    unfold forS at h
    cases hgd : g d env with
    | none => simp only [hgd] at h; exact h.elim
    | some env1 =>
      simp only [hgd] at h
      refine ⟨Γ, ω, env, S, d, s', rd, env1, hgd, fun σ2 s2 _ => ⟨Γ, ω, env1, S, s2, ?_⟩⟩
      cases hbd : fb env1 S with
      | nx e S' => rw [hbd] at h; exact fun σ3 H3 ω3 s3 => ⟨ω3, e, S', lt, s3, h⟩
      | ct e S' => rw [hbd] at h; exact fun σ3 H3 ω3 s3 => ⟨ω3, e, S', lt, s3, h⟩
      | bk e S' => rw [hbd] at h; exact fun σ3 H3 ω3 s3 => h σ3 H3 ω3 s3.dropGh
      | rt v S' => rw [hbd] at h; exact h
      | ex x e S' => rw [hbd] at h; exact fun c od σ3 H3 ω3 s3 r3 => h c od σ3 H3 ω3 s3.dropGh r3
      | stk => rw [hbd] at h; exact h
  · have e : i = xs.length := by omega
    subst e
    rw [List.drop_length] at h
    exact .inl ⟨wk.stop H ω s.gamma, h σ H ω s.dropGh⟩

/-! ### while -/
def whS (c : ST) (body : SS) : Nat → SS
  | 0, _, _ => .stk
  | n + 1, env, S => (c env S).bindO env fun b S1 => if b then (match body env S1 with
      | .nx e S' => whS c body n e S'
      | .ct e S' => whS c body n e S'
      | .bk e S' => .nx e S'
      | .rt v S' => .rt v S'
      | .ex x e S' => .ex x e S'
      | .stk => .stk) else .nx env S1
theorem whS_more {c : ST} {body : SS} : ∀ (n k : Nat) (env : En) (S : Sto), whS c body n env S ≠ .stk → whS c body (n + k) env S = whS c body n env S
  | 0, k, env, S, h => (h rfl).elim
  | n + 1, k, env, S, h => by
    have e : n + 1 + k = (n + k) + 1 := by omega
    rw [e]
    unfold whS at h ⊢
    cases hc : c env S with
    | ok b S1 =>
      simp only [hc, R.bindO_ok] at h ⊢
      cases b with
      | true =>
        simp only [if_true] at h ⊢
        cases hb : body env S1 with
        | nx e S' => simp only [hb] at h ⊢; exact whS_more n k e S' h
        | ct e S' => simp only [hb] at h ⊢; exact whS_more n k e S' h
        | bk e S' => rfl
        | rt v S' => rfl
        | ex x e S' => rfl
        | stk => rfl
      | false => rfl
    | ex e S1 => rfl
    | stk => rfl
open Classical in
noncomputable def sWhile (c : ST) (body : SS) : SS := fun env S => if h : ∃ n, whS c body n env S ≠ .stk then whS c body h.choose env S else .stk
theorem sWhile_eq {c : ST} {body : SS} (n : Nat) {env : En} {S : Sto} {o : O} (h : whS c body n env S = o) (hn : o ≠ .stk) : sWhile c body env S = o := by
  have ex : ∃ n, whS c body n env S ≠ .stk := ⟨n, by rw [h]; exact hn⟩
  unfold sWhile
  rw [dif_pos ex]
  have q := ex.choose_spec
  have a := whS_more ex.choose n env S q
  have b := whS_more n ex.choose env S (by rw [h]; exact hn)
  rw [Nat.add_comm n] at b
  rw [← a, b, h]
theorem pfs_while {c : Expr} {body : List Stmt} {fc : ST} {fb : SS} {pos : Pos} (hp : PassesOwn (model J.X.prog J.X.w) J.X.A J.X.env J.X.xe) (hc : PFT J c fc) (hb : PFB J body fb) : PFS J (.While c body [] pos) (sWhile fc fb) := by
  refine PS.imp (ps_while hp hc hb) fun D σ H ⟨ω, env, S, s, q⟩ => ?_
  by_cases ex : ∃ n, whS fc fb n env S ≠ .stk
  · unfold sWhile at q
    rw [dif_pos ex] at q
    refine ⟨fun m σ H => ∃ ω env S, Sim J.G J.anc ω env S σ H ∧ PostS J (whS fc fb m env S) D, ⟨_, ω, env, S, s, q⟩, ?_⟩
    rintro m σ H ⟨ω, env, S, s, h⟩
    cases m with
    | zero => exact h.elim
    | succ m =>
      unfold whS at h
      refine ⟨ω, env, S, s, post_bindO0 h fun b S1 ω1 H1 v l1 s1 r1 h1 => ?_⟩
      subst r1
      cases b with
      | false =>
        rw [if_neg Bool.false_ne_true]
        exact h1 σ H1 ω1 s1
      | true =>
        rw [if_pos rfl]
        simp only [if_true] at h1
        refine ⟨fun σ' H' => ∃ ω env S, Sim J.G J.anc ω env S σ' H' ∧ PostS J (whS fc fb m env S) D, fun σ' H' ⟨ω, env, S, a, b⟩ => ⟨m, Nat.lt_succ_self _, ω, env, S, a, b⟩, ω1, env, S1, s1, ?_⟩
        cases hbd : fb env S1 with
        | nx e S' => rw [hbd] at h1; exact fun σ3 H3 ω3 s3 => ⟨ω3, e, S', s3, h1⟩
        | ct e S' => rw [hbd] at h1; exact fun σ3 H3 ω3 s3 => ⟨ω3, e, S', s3, h1⟩
        | bk e S' => rw [hbd] at h1; exact h1
        | rt v S' => rw [hbd] at h1; exact h1
        | ex x e S' => rw [hbd] at h1; exact h1
        | stk => rw [hbd] at h1; exact h1
  · unfold sWhile at q
    rw [dif_neg ex] at q
    exact q.elim

/-! ### comprehensions -/
def wipeE (env : En) : List Nat → En
  | [] => env
  | v :: vs => (wipeE env vs).set v none
theorem wipeE_length (env : En) : ∀ vs : List Nat, (wipeE env vs).length = env.length
  | [] => rfl
  | v :: vs => by unfold wipeE; rw [List.length_set, wipeE_length env vs]
theorem wipeE_some {env : En} {i : Nat} {x : Sl} : ∀ {vs : List Nat}, (wipeE env vs)[i]? = some (some x) → env[i]? = some (some x) ∧ i ∉ vs
  | [], h => ⟨h, by simp⟩
  | v :: vs, h => by
    unfold wipeE at h
    by_cases hi : v = i
    · subst hi
      by_cases hv : v < (wipeE env vs).length
      · rw [List.getElem?_set_self hv] at h; cases h
      · rw [List.getElem?_eq_none (by simpa using hv)] at h; cases h
    · rw [List.getElem?_set_ne hi] at h
      obtain ⟨h1, h2⟩ := wipeE_some h
      exact ⟨h1, by simp only [List.mem_cons, not_or]; exact ⟨fun e => hi e.symm, h2⟩⟩
theorem wipe_not {σ : L2.St} {i : Nat} : ∀ {vs : List Nat}, i ∉ vs → (wipe σ vs)[i]? = σ[i]?
  | [], _ => rfl
  | v :: vs, h => by
    unfold wipe
    rw [List.getElem?_set_ne fun e => h (by rw [e]; exact List.mem_cons_self), wipe_not fun z => h (List.mem_cons_of_mem _ z)]
theorem Sim.wipe {anc : Anc} {G : Gc} (s : Sim G anc ω env S σ H) (vs : List Nat) : Sim G anc ω (wipeE env vs) S (wipe σ vs) H := by
  refine ⟨s.le0, s.aud, s.gh, s.st, by rw [wipeE_length, wipe_length]; exact s.len, fun i x e => ?_, fun i j o u a e1 e2 e3 e4 => ?_⟩
  · obtain ⟨h1, h2⟩ := wipeE_some e
    obtain ⟨v, ev, r⟩ := s.vals i x h1
    exact ⟨v, by rw [wipe_not h2]; exact ev, r⟩
  · obtain ⟨h1, n1⟩ := wipeE_some e1
    obtain ⟨h2, n2⟩ := wipeE_some e2
    rw [wipe_not n1] at e3
    rw [wipe_not n2] at e4
    exact s.ap i j o u a h1 h2 e3 e4
def R.noex {α : Type} (r : R α) : R α := match r with
  | .ex _ _ => .stk
  | r => r
@[simp] theorem R.noex_ok {α : Type} (a : α) (S : Sto) : (R.ok a S).noex = .ok a S := rfl
@[simp] theorem R.noex_stk {α : Type} : (R.stk : R α).noex = .stk := rfl
def lcS (g : SG) (c : ST) (e : SE) (vs : List Nat) : List D → En → Sto → R (List D)
  | [], _, S => .ok [] S
  | d :: ds, env, S => match g d (wipeE env vs) with
    | none => .stk
    | some env2 => (c env2 S).noex.bind fun b S1 => if b then (e env2 S1).noex.bind fun y S2 => (lcS g c e vs ds env S2).bind fun ys S3 => .ok (y :: ys) S3 else lcS g c e vs ds env S1
def sLc (fi : SI) (g : SG) (c : ST) (e : SE) (vs : List Nat) : SL := fun env S => (fi env S).bind fun xs S1 => if xs.length ≤ 1000000 then (lcS g c e vs xs env S1).bind fun ys S2 => .ok (.lst ys) S2 else .stk
/-- the context of a comprehension's block -/
def Jx.blk (J : Jx) (Γ : List (D × V)) (s : Shared) (H : Hp) (scope : Scope) (C : Addr) (cl : List (Str × Addr)) (fp : List Addr) : Jx :=
  ⟨J.X.blk s H scope (compEnvC scope cl C J.X.env) fp, fun _ _ _ _ => False, ⟨J.anc.w0, J.anc.H, Γ ++ J.anc.gh⟩⟩
def Jx.nw (J : Jx) (Γ : List (D × V)) : Jx := ⟨J.X, fun _ _ _ _ => False, ⟨J.anc.w0, J.anc.H, Γ ++ J.anc.gh⟩⟩
/-- tests of a comprehension -/
def PFTs (J : Jx) (es : List Expr) (f : ST) : Prop := PTs J.X es (canT J f)
def sYes : ST := fun _ S => .ok true S
theorem pfts_nil : PFTs J [] sYes := by
  refine ⟨fun pins s σ H Q I ⟨ω, env, S, sm, h⟩ => pts_nil.run pins s σ H Q I ?_⟩
  exact h true H ω (Le.refl _ _) sm rfl
theorem pfts_one {e : Expr} {f : ST} (h : PFT J e f) : PFTs J [e] f := by
  exact ⟨fun pins s σ H Q I q => (pts_one h).run pins s σ H Q I q⟩
theorem PostR.noex {α β : Type} {ω : Wd} {H : Hp} {R1 : Wd → Hp → α → β → Prop} {γ δ : Type} {R2 : Wd → Hp → γ → δ → Prop} {Q : δ → Hp → Prop} {r : R α} {k : α → Sto → R γ} {K : β → Hp → Prop} {J' : Jx} {env2 : En} {σ2 : L2.St}
    (h : PostR J σ env ω H R2 (r.noex.bind k) Q) (hk : ∀ a S1 ω1 H1 b, Le ω H ω1 H1 → Sim J'.G J'.anc ω1 env2 S1 σ2 H1 → R1 ω1 H1 a b → PostR J σ env ω H R2 (k a S1) Q → K b H1) : PostR J' σ2 env2 ω H R1 r K := by
  cases r with
  | ok a S' => exact fun b H' ω' l s q => hk a S' ω' H' b l s q h
  | ex e S' => exact h.elim
  | stk => exact h
theorem wipe_in {σ : L2.St} {i : Nat} : ∀ {vs : List Nat}, i ∈ vs → i < σ.length → (wipe σ vs)[i]? = some none
  | v :: vs, h, l => by
    unfold wipe
    by_cases e : v = i
    · subst e
      rw [List.getElem?_set_self (by rw [wipe_length]; exact l)]
    · rw [List.getElem?_set_ne e]
      exact wipe_in ((List.mem_cons.mp h).resolve_left fun z => e z.symm) l
theorem wipe_ext {a b : L2.St} {vs : List Nat} (h : ∀ j, j ∉ vs → a[j]? = b[j]?) (l : a.length = b.length) : wipe a vs = wipe b vs := by
  refine List.ext_getElem? fun j => ?_
  by_cases hj : j ∈ vs
  · by_cases hl : j < a.length
    · rw [wipe_in hj hl, wipe_in hj (by omega)]
    · rw [List.getElem?_eq_none (by rw [wipe_length]; omega), List.getElem?_eq_none (by rw [wipe_length]; omega)]
  · rw [wipe_not hj, wipe_not hj, h j hj]
/-- a new thing of ours that no slot holds is changed -/
theorem Sim.mutFl {G : Gc} {anc : Anc} (s : Sim G anc ω env S σ H) {a : Addr} {o : HO} (u : ω.U a) (n : ¬ ω.M a) (f : anc.H a = none) (hn : ∀ (i : Nat) (x : MO), env[i]? = some (some (Sl.own x)) → σ[i]? = some (some (V.ref a)) → False) : Sim G anc ω env S σ (upd H a o) := by
  refine ⟨⟨s.le0.mext, s.le0.Mle, s.le0.Mnew, s.le0.Ule, s.le0.Unew, fun b w e m => ?_, fun b e => ?_⟩, s.aud, fun p hp => (s.gh p hp).mut u, s.st.mutU u n, s.len, fun j sl e => ?_, s.ap⟩
  · rw [upd_ne fun z => by rw [z, f] at e; cases e]
    exact s.le0.frame b w e m
  · by_cases z : b = a
    · rw [z]; exact f
    · rw [upd_ne z] at e; exact s.le0.dom b e
  · obtain ⟨v, e1, q⟩ := s.vals j sl e
    refine ⟨v, e1, ?_⟩
    cases sl with
    | val d => exact Rep.mut u q
    | own w =>
      obtain ⟨b, ev, r', u', n', f'⟩ := q
      subst ev
      exact ⟨b, rfl, r'.mut u fun w' => hn j _ e (by rw [← w']; exact e1), u', n', f'⟩
theorem Le.mutN {ω' : Wd} {H' : Hp} (l : Le ω H ω' H') {a : Addr} {o : HO} (h : H a = none) : Le ω H ω' (upd H' a o) :=
  ⟨l.mext, l.Mle, l.Mnew, l.Ule, l.Unew, fun b x e n => by rw [upd_ne (ne_of_none e h)]; exact l.frame b x e n, fun b e => by
    by_cases z : b = a
    · rw [z]; exact h
    · rw [upd_ne z] at e; exact l.dom b e⟩
theorem can_lc {fi : SI} {ts : List Nat} {g : SG} {c : ST} {e : SE} {vs : List Nat} (hts : ∀ i ∈ ts, i ∈ vs) {σ : L2.St} {H : Hp} {Q : VK} (q : canL J (sLc fi g c e vs) σ H Q) :
    tLc (canI J fi) (fun v σ H Q => ∃ Γ, canG (J.nw Γ) ts g v σ H Q) (fun σ H Q => ∃ Γ, canT (J.nw Γ) c σ H Q) (fun σ H Q => ∃ Γ, canE (J.nw Γ) true e σ H Q) vs σ H Q := by
  obtain ⟨ω0, env, S0, s0, h0⟩ := q
  refine ⟨ω0, env, S0, s0, post_bind0 h0 fun xs S1 ω1 H1 b l1 s1 r1 h1 => ?_⟩
  obtain ⟨I, Γ⟩ := b
  obtain ⟨g1, wk⟩ := r1
  by_cases hx : xs.length ≤ 1000000
  · rw [if_pos hx] at h1
    intro D hD
    have hD0 : H D = none := l1.dom D hD
    have notOwn : ∀ (i : Nat) (x : MO), env[i]? = some (some (Sl.own x)) → σ[i]? = some (some (V.ref D)) → False := fun i x e1 e2 => by
      obtain ⟨v, ev, a, ea, r, _⟩ := s0.vals i _ e1
      rw [e2] at ev
      cases ev
      cases ea
      obtain ⟨y, hy⟩ := r.some
      rw [hD0] at hy
      cases hy
    refine ⟨fun i m H' => ∃ ω S acc accd, m = xs.length - i ∧ i ≤ xs.length ∧ Sim J.G (J.wg Γ).anc ω env S σ H' ∧ Le ω0 H ω H' ∧ H' D = some (.lst acc) ∧ Reps J.G ω H' accd acc ∧ ω.U D ∧ ¬ ω.M D ∧ accd.length ≤ i ∧
      PostR J σ env ω0 H (fun ω' H' o v => LRel J.G H ω' H' o v) ((lcS g c e vs (xs.drop i) env S).bind fun ys S2 => .ok (.lst (accd ++ ys)) S2) Q, ⟨xs.length, ω1.ins D, S1, [], [], by simp, Nat.zero_le _, ?_, ?_, upd_same, .nil, .inr rfl, ?_, Nat.zero_le _, h1⟩, ?_⟩
    · have s1' := s1.addGh g1
      have l : Le ω1 H1 (ω1.ins D) (upd H1 D (.lst [])) := (Le.new hD).ins hD
      have n : ¬ ω1.U D := s1.nU hD
      refine s1'.le l ⟨fun a h => .inl (s1.st.mu a h), fun a h => ?_, s1.st.mem, s1.st.nd, s1.st.len, fun k o e => ?_⟩
      · rcases h with h | rfl
        · exact fun z => s1.st.ud a h ((Le.new (ω := ω1) hD).dom a z)
        · rw [upd_same]; exact fun z => nomatch z
      · obtain ⟨a, ha, r⟩ := s1.st.obj k o e
        exact ⟨a, ha, r.le s1.st.mu l fun u hu => by rw [upd_ne (ne_of_none hu hD)]; exact hu⟩
    · exact l1.trans ((Le.new hD).ins hD)
    · exact fun z => s1.nU hD (s1.st.mu D z)
    · rintro i m H' ⟨ω, S, acc, accd, rfl, hi, s, l, hDa, ra, uD, nD, hal, h⟩
      by_cases lt : i < xs.length
      · refine .inr ⟨wk.go i H' ω lt s.gamma, fun H' => ∃ ω S acc accd, i + 1 ≤ xs.length ∧ Sim J.G (J.wg Γ).anc ω env S σ H' ∧ Le ω0 H ω H' ∧ H' D = some (.lst acc) ∧ Reps J.G ω H' accd acc ∧ ω.U D ∧ ¬ ω.M D ∧ accd.length ≤ i + 1 ∧
            PostR J σ env ω0 H (fun ω' H' o v => LRel J.G H ω' H' o v) ((lcS g c e vs (xs.drop (i + 1)) env S).bind fun ys S2 => .ok (.lst (accd ++ ys)) S2) Q,
          fun H' ⟨ω, S, acc, accd, a1, a2, a3, a4, a5, a6, a7, a8, a9⟩ => ⟨xs.length - (i + 1), by omega, ω, S, acc, accd, rfl, a1, a2, a3, a4, a5, a6, a7, a8, a9⟩, fun x H2 y => ?_⟩
        obtain ⟨hh, d, hd, rd⟩ := wk.yld i H' ω x H2 lt s.gamma s.st.ud y
        have both : Sim J.G (J.wg Γ).anc ω env S σ H2 ∧ Le ω H' ω H2 := by
          rcases hh with rfl | ⟨T, o, n, rfl⟩
          · exact ⟨s, Le.refl _ _⟩
          · exact ⟨s.new n, Le.new n⟩
        obtain ⟨s2, l2⟩ := both
        have hD2 : H2 D = some (.lst acc) := l2.frame D _ hDa nD
        have ra2 := ra.le s.st.mu l2
        have ed : xs.drop i = d :: xs.drop (i + 1) := by
          rw [List.drop_eq_getElem_cons lt]
          rw [List.getElem?_eq_getElem lt] at hd
          cases hd
          rfl
        rw [ed] at h
        unfold lcS at h
        cases hgd : g d (wipeE env vs) with
        | none => simp only [hgd] at h; exact h.elim
        | some env2 =>
          simp only [hgd] at h
          refine ⟨Γ, ω, wipeE env vs, S, d, s2.wipe vs, rd, env2, hgd, fun σ2 s3 off => ⟨?_, ?_⟩⟩
          · rw [wipe_ext (b := wipe σ vs) (fun j hj => off.1 j fun z => hj (hts j z)) off.2]
            exact wipe_ext (fun j hj => wipe_not hj) (wipe_length σ vs)
          · cases hc : c env2 S with
            | stk => simp only [hc, R.noex_stk, R.bind_stk] at h; exact h.elim
            | ex _ _ => simp only [hc, R.noex, R.bind_stk] at h; exact h.elim
            | ok b S3 =>
              simp only [hc, R.noex_ok, R.bind_ok] at h
              refine ⟨Γ, ω, env2, S, s3, ?_⟩
              rw [hc]
              intro b' H3 ω3 l3 s4 eb
              subst eb
              have hD3 : H3 D = some (.lst acc) := l3.frame D _ hD2 nD
              have ra3 := ra2.le s2.st.mu l3
              have uD3 := l3.Ule D uD
              have nD3 := l3.nM hD2 nD
              have s5 : Sim J.G (J.wg Γ).anc ω3 env S3 σ H3 := s2.le l3 s4.st
              have l03 : Le ω0 H ω3 H3 := (l.trans l2).trans l3
              cases b with
              | false =>
                rw [if_neg Bool.false_ne_true]
                rw [if_neg Bool.false_ne_true] at h
                exact ⟨ω3, S3, acc, accd, lt, s5, l03, hD3, ra3, uD3, nD3, by omega, h⟩
              | true =>
                rw [if_pos rfl]
                rw [if_pos rfl] at h
                cases he : e env2 S3 with
                | stk => simp only [he, R.noex_stk, R.bind_stk] at h; exact h.elim
                | ex _ _ => simp only [he, R.noex, R.bind_stk] at h; exact h.elim
                | ok yd S4 =>
                  simp only [he, R.noex_ok, R.bind_ok] at h
                  refine ⟨Γ, ω3, env2, S3, s4, ?_⟩
                  rw [he]
                  intro v H4 ω4 l4 s6 r6
                  have rv : Rep J.G ω4 H4 yd v := TRep.rep r6
                  have hD4 : H4 D = some (.lst acc) := l4.frame D _ hD3 nD3
                  have ra4 := ra3.le s5.st.mu l4
                  have uD4 := l4.Ule D uD3
                  have nD4 := l4.nM hD3 nD3
                  have s7 : Sim J.G (J.wg Γ).anc ω4 env S4 σ H4 := s5.le l4 s6.st
                  have fD : (J.wg Γ).anc.H D = none := s0.le0.dom D hD0
                  have hl := ra.length
                  refine ⟨acc, hD4, by rw [sizeLine_eq]; omega, ω4, S4, acc ++ [v], accd ++ [yd], lt, s7.mutFl uD4 nD4 fD notOwn, (l03.trans l4).mutN hD0, upd_same, (ra4.append (.cons rv .nil)).mut uD4, uD4, nD4, by rw [List.length_append]; simp; omega, ?_⟩
                  have eq : ∀ (r : R (List PF.D)), ((r.bind fun ys S3 => R.ok (yd :: ys) S3).bind fun ys S2 => R.ok (MO.lst (accd ++ ys)) S2) = r.bind fun ys S2 => R.ok (MO.lst ((accd ++ [yd]) ++ ys)) S2 := fun r => by
                    cases r with
                    | ok a S => simp [List.append_assoc]
                    | ex _ _ => rfl
                    | stk => rfl
                  rw [eq] at h
                  exact h
      · have ei : i = xs.length := by omega
        subst ei
        rw [List.drop_length] at h
        have h' : PostR J σ env ω0 H (fun ω' H' o v => LRel J.G H ω' H' o v) (.ok (.lst (accd ++ [])) S) Q := h
        rw [List.append_nil] at h'
        exact .inl ⟨wk.stop H' ω s.gamma, h' (.ref D) H' ω l s.dropGh ⟨D, rfl, hD0, ⟨acc, hDa, ra⟩, uD, nD, fun _ _ _ z => nomatch z⟩⟩
  · rw [if_neg hx] at h1
    exact h1.elim
theorem pfl_lc {elt tg iter : Expr} {ifs : List Expr} {scope : Scope} {own : List (Str × Nat)} {pos : Pos} {fi : SI} {ts : List Nat} {g : SG} {c : ST} {e : SE} (hN : J.X.N.Nodup) (hi : PFI J tg iter fi) (ok : BlkOk J.X.N J.X.env.scope scope own)
    (hg : ∀ Γ s H C cl fp, PFG (J.blk Γ s H scope C cl fp) ts tg g) (ht : ∀ Γ s H C cl fp, PFTs (J.blk Γ s H scope C cl fp) ifs c) (he : ∀ Γ s H C cl fp, PF (J.blk Γ s H scope C cl fp) true elt e)
    (hts : ∀ i ∈ ts, i ∈ own.map (·.2) := by decide) (hc : J.X.calm = true := by rfl) (hs : ∀ x, foldedSetIterable iter J.X.env x = pure x := by intro _; rfl) :
    PFL J (.ListComp elt [⟨tg, iter, ifs, 0⟩] scope pos) (sLc fi g c e (own.map (·.2))) :=
  PE.imp (pe_lc hc hN hi ok (fun s H C cl fp => PG.some (t := fun Γ => canG (J.nw Γ) ts g) fun Γ => hg Γ s H C cl fp) (fun s H C cl fp => ⟨fun pins s' σ H' Q I ⟨Γ, q⟩ => (ht Γ s H C cl fp).run pins s' σ H' Q I q⟩) (fun s H C cl fp => PE.some (t := fun Γ => canE (J.nw Γ) true e) fun Γ => he Γ s H C cl fp) hs) fun σ H Q q => can_lc hts q
end
end PF

/-! PF, part e: defs and their calls. -/
namespace PF
open PySem L2

/-! ### a def's promise where no repr is under way -/
structure Fg (P : Program) (w : World) (K : PySem.W.Frag) (mg : Str → Option Value) (base : Heap) (k : Nat) (f : Addr) (fd : FuncData) (ps : List Str) (sp : Sp) : Prop where
  len : ∀ vs H Q E, sp vs H Q E → vs.length = ps.length
  run : ∀ (A : Around) (outer : List PySem.Env) (s : Shared) (H : Hp) (args : Args) (us : List Value) (vs : List V) (Q : VK) (E : XK), A.guards = some [] → Room k A → Env0 P w K mg base A outer s H → BindsTo s fd args (ps.zip us) → Vals vs us → sp vs H Q E →
    codeAny (model P w) A (.call (.ref f) args) (CR (L2.CX P w) outer P w H s Q E) s
theorem Fg.mono {P : Program} {w : World} {K : PySem.W.Frag} {mg : Str → Option Value} {base : Heap} {k k' : Nat} {f : Addr} {fd : FuncData} {ps : List Str} {sp : Sp} (h : Fg P w K mg base k f fd ps sp) (l : k ≤ k') : Fg P w K mg base k' f fd ps sp :=
  ⟨h.len, fun A outer s H args us vs Q E g r => h.run A outer s H args us vs Q E g (r.mono l)⟩
open PyProof.Rows in
theorem fg_of {P : Program} {w : World} {K : PySem.W.Frag} {mg : Str → Option Value} {base : Heap} {k : Nat} {f : Addr} {x qual : Str} {params : Arguments} {body : List Stmt} {scope : Scope} {dV kV doc pm cdv ct oc : Value} {an od : Option Addr} {osl : Array (Option Value)} {N ps : List Str} {sp : Sp}
    (lk : K.lookup f = some ⟨oc, od, .func (PySem.W.fnOf x qual params body scope dV kV doc pm an cdv ct), osl⟩) (hcd : PySem.W.codeIn K cdv qual = true) (S : FnScope N ps scope) (len : ∀ vs H Q E, sp vs H Q E → vs.length = ps.length)
    (hb : ∀ (A : Around) (outer : List PySem.Env) (s : Shared) (H : Hp) (vs : List V) (Q : VK) (E : XK), A.guards = some [] → Room k (A.deeper (envOfC qual scope s.heap.objs.size f cdv)) → sp vs H Q E →
      ∃ t, PSs (cxOf (L2.CX P w) P w K mg base N qual scope f cdv A outer s H E) body t ∧ t { nx := fun _ H' => Q .non H', rt := Q } (L2.start N vs) H) :
    Fg P w K mg base (k + 1) f (PySem.W.fnOf x qual params body scope dV kV doc pm an cdv ct) ps sp := by
  refine ⟨len, fun A outer s H args us vs Q E g hr e0 bt r q => ?_⟩
  have there : ∀ b o, base.get? b = some o → s.heap.get? b = some o := fun b o h => (e0.bs b o h).1
  have kin : K.In s.heap := e0.mod.kin.keeps there
  have lim : s.heap.NoLimit := e0.mod.nolimit.keeps there
  have kinds : ∀ y ∈ ps.zip us, scope.names.lookup y.1 = some .local ∨ (scope.names.lookup y.1 = some .cell ∧ ((cellsFrom (s.heap.objs.size + 1) scope.names []).lookup y.1).isSome = true) := by
    rintro ⟨n, v⟩ hy
    have hn := S.par n (List.of_mem_zip hy).1
    exact hn.imp id fun z => ⟨z, PySem.W.cellsFrom_some _ _ _ (.inl z)⟩
  refine codeAny_call_function hr.depth (kin _ _ lk) rfl S.co S.gen rfl (PySem.W.codeRec_of kin hcd) (bt _ _ _ _ (wpAny_newFunctionEnv_cells S.kind kinds fun env he s1 ic => ?_))
  subst he
  refine ⟨lim.keeps ic.toInCall.keep, codeAny_func ?_⟩
  obtain ⟨t, ht, hq⟩ := hb A outer s H vs Q E g (hr.deeper _) q
  have start := inv_start (CX := L2.CX P w) (E := E) S hr.hd e0 (len _ _ _ _ q) r ic
  refine wpAny_mono (ht.run [] s1 _ H _ start hq) (fun fl s' hs => ?_) fun _ _ hs => hs
  have back : ∀ {σ' : L2.St} {H' : Hp} {v : V} {u : Value}, Inv (cxOf (L2.CX P w) P w K mg base N qual scope f cdv A outer s H E) [] σ' H' s' → RelV v u → Q v H' → CE outer P w H s Q u s' :=
    fun {_ H' v _} J a b => ⟨v, H', J.os, J.bare, J.base, J.hok, a, b⟩
  cases fl <;> simp only [SP] at hs
  · obtain ⟨_, _, J, z⟩ := hs
    exact back (v := V.non) (u := Value.none) J rfl z
  · exact hs.elim fun _ h => h.elim fun _ h => h.2.elim
  · exact hs.elim fun _ h => h.elim fun _ h => h.2.elim
  · obtain ⟨v, _, _, J, a, b⟩ := hs
    exact back J a b
/-! ### what a def promises -/
def PostC (G : Gc) (ω : Wd) (H : Hp) (r : R D) (Q : VK) (E : XK) : Prop := match r with
  | .ok d S => ∀ v H' ω', Le ω H ω' H' → Sim0 G ω' S H' → Rep G ω' H' d v → Q v H'
  | .ex e S => ∀ cls od H' ω', Le ω H ω' H' → Sim0 G ω' S H' → RepX G ω' H' e cls od → E cls od H'
  | .stk => False
abbrev FD := List D → Sto → R D
def spF (G : Gc) (n : Nat) (F : FD) : Sp := fun vs H Q E => vs.length = n ∧ ∃ ω ds S, Sim0 G ω S H ∧ Reps G ω H ds vs ∧ PostC G ω H (F ds S) Q E
def env0 (N : Nat) (ds : List D) : En := ds.map (fun d => some (.val d)) ++ List.replicate (N - ds.length) none
def runF (N : Nat) (body : SS) : FD := fun ds S => match body (env0 N ds) S with
  | .nx _ S' => .ok .non S'
  | .rt d S' => .ok d S'
  | .ex e _ S' => .ex e S'
  | _ => .stk
/-- the context of a def's body -/
def fJ (P : Program) (w : World) (K : PySem.W.Frag) (mg : Str → Option Value) (base : Heap) (N : List Str) (qual : Str) (scope : Scope) (f : Addr) (cd : Value) (A : Around) (outer : List PySem.Env) (s : Shared) (H : Hp) (E : XK) (anc : Anc) : Jx :=
  ⟨cxOf (L2.CX P w) P w K mg base N qual scope f cd A outer s H E, fun cls d _ H' => E cls d H', anc⟩
section
variable {P : Program} {w : World} {K : PySem.W.Frag} {mg : Str → Option Value} {base : Heap} {x qual : Str} {params : Arguments} {body : List Stmt} {scope : Scope} {dvs : List V} {kws : List (Str × V)} {f : Addr} {fd : FuncData}
theorem fn_ok {N ps : List Str} {k : Nat} {fb : SS} (F : FunD K x qual params body scope dvs kws f fd) (S : FnScope N ps scope)
    (hb : ∀ (cdv : Value) (A : Around) (outer : List PySem.Env) (s : Shared) (H : Hp) (E : XK) (anc : Anc), A.guards = some [] → Room k (A.deeper (PyProof.Rows.envOfC qual scope s.heap.objs.size f cdv)) → PFB (fJ P w K mg base N qual scope f cdv A outer s H E anc) body fb) :
    Fg P w K mg base (k + 1) f fd ps (spF ⟨K, mg⟩ ps.length (runF N.length fb)) := by
  obtain ⟨oc, od, dV, kV, doc, pm, an, cdv, ct, osl, rfl, lk, hcd, _, _⟩ := F.ex
  refine fg_of lk hcd S (fun vs H Q E h => h.1) fun A outer s H vs Q E g hr h => ?_
  obtain ⟨hl, ω, ds, St, sm, rs, pc⟩ := h
  refine ⟨_, hb cdv A outer s H E ⟨ω, H, []⟩ g hr, ω, env0 N.length ds, St, ?_, ?_⟩
  · have el := rs.length
    refine ⟨Le.refl _ _, sm.ud, fun p hp => (by cases hp), sm, ?_, fun i sl e => ?_, fun i j o u a e1 _ _ _ => ?_⟩
    · unfold env0 L2.start
      rw [List.length_append, List.length_append, List.length_map, List.length_map, List.length_replicate, List.length_replicate, el]
    · unfold env0 at e
      by_cases hi : i < ds.length
      · rw [List.getElem?_append_left (by simpa using hi), List.getElem?_map] at e
        cases hd : ds[i]? with
        | none => rw [hd] at e; cases e
        | some d =>
          rw [hd] at e
          cases e
          obtain ⟨v, hv, r⟩ := rs.get hd
          refine ⟨v, ?_, r⟩
          unfold L2.start
          rw [List.getElem?_append_left (by rw [List.length_map, ← el]; exact hi), List.getElem?_map, hv]
          rfl
      · rw [List.getElem?_append_right (by simpa using hi), List.getElem?_replicate] at e
        split at e <;> cases e
    · unfold env0 at e1
      by_cases hi : i < ds.length
      · rw [List.getElem?_append_left (by simpa using hi), List.getElem?_map] at e1
        cases hd : ds[i]? with
        | none => rw [hd] at e1; cases e1
        | some d => rw [hd] at e1; cases e1
      · rw [List.getElem?_append_right (by simpa using hi), List.getElem?_replicate] at e1
        split at e1 <;> cases e1
  · unfold runF at pc
    cases hf : fb (env0 N.length ds) St with
    | nx e S' => rw [hf] at pc; exact fun σ H' ω' s' => pc .non H' ω' s'.le0 s'.st .non
    | rt d S' => rw [hf] at pc; exact fun v H' ω' l s' r => pc v H' ω' l s' r
    | ex e e' S' => rw [hf] at pc; exact fun cls od σ H' ω' s' r => pc cls od H' ω' s'.le0 s'.st r
    | bk e S' => rw [hf] at pc; exact pc.elim
    | ct e S' => rw [hf] at pc; exact pc.elim
    | stk => rw [hf] at pc; exact pc.elim
end

/-! ### calls -/
section
variable {J : Jx} {k n : Nat} {f : Addr} {fd : FuncData} {ps ks : List Str} {x : Str} {p pos : Pos} {g : List Value → List Value → List Value} {gV : List V → List V → List V} {gD : List D → List D → List D}
theorem run_fnNS {X : Cx} {sp : Sp} {E : XK} {pins : List (Addr × Obj)} {σ : L2.St} {H : Hp} {s : Shared} {Q : VK} {us ws : List Value} {vs zs : List V} (F : Fg X.prog X.w X.K X.mg X.base k f fd ps sp) (gd : X.A.guards = some []) (hr : Room k X.A) (hb : KBn X.K fd ps n ks g gV) (hx : PassesAt (L2.CX X.prog X.w) X σ E)
    (I : Inv X pins σ H s) (r : Vals vs us) (rz : Vals zs ws) (l1 : vs.length = n) (l2 : zs.length = ks.length) (h : sp (gV vs zs) H Q E) : wpAny (model X.prog X.w) X.A (call (.ref f) us (ks.zip ws)) (EP X pins σ Q) X.xe s := by
  refine wpAny_call (codeAny_mono (F.run X.A X.stack s H _ _ _ Q E gd hr I.env0 (hb.to s us ws I.kIn (r.length.symm.trans l1) (rz.length.symm.trans l2)) (hb.rel r rz) h) fun res s' hq => ?_)
  match res, hq with
  | .error e, hq => exact hx pins H s e s' I hq
  | .ok (.ret u), hq => exact I.after hq
  | .ok .next, hq => exact hq.elim
  | .ok .brk, hq => exact hq.elim
  | .ok .cont, hq => exact hq.elim
/-- how the values of a call come to the parameters, for values, abstract values and data alike -/
structure Shape (K : PySem.W.Frag) (G : Gc) (fd : FuncData) (ps : List Str) (n : Nat) (ks : List Str) (gD : List D → List D → List D) : Prop where
  ex : ∃ (g : List Value → List Value → List Value) (gV : List V → List V → List V), KBn K fd ps n ks g gV ∧ ∀ (ω : Wd) (H : Hp) (ds : List D) (vs : List V) (zs : List D) (ws : List V), Reps G ω H ds vs → Reps G ω H zs ws → Reps G ω H (gD ds zs) (gV vs ws)
def sCall (n m : Nat) (gD : List D → List D → List D) (F : FD) (fa fk : SA) : SE := fun env S => (fa env S).bind fun ds S1 => (fk env S1).bind fun zs S2 => if ds.length = n ∧ zs.length = m then F (gD ds zs) S2 else .stk
/-- the reading of a call -/
def tCallNS (n m : Nat) (sp : Sp) (gV : List V → List V → List V) (E : L2.St → XK) (t tk : TA) : TE := fun σ H Q => t σ H fun vs H1 => tk σ H1 fun zs H2 => vs.length = n ∧ zs.length = m ∧ sp (gV vs zs) H2 Q (E σ)
theorem TReps.length {G : Gc} {ω : Wd} {H : Hp} {env : En} {σ : L2.St} {st : Bool} : ∀ {ds : List D} {vs : List V}, TReps G ω H env σ st ds vs → ds.length = vs.length
  | [], [], _ => rfl
  | _ :: _, _ :: _, ⟨_, b⟩ => congrArg Nat.succ (TReps.length b)
theorem can_call {m : Nat} {gV : List V → List V → List V} {F : FD} {fa fk : SA} {np : Nat} (hl : ∀ vs zs : List V, vs.length = n → zs.length = m → (gV vs zs).length = np) (hD : ∀ (ω : Wd) (H : Hp) (ds : List D) (vs : List V) (zs : List D) (ws : List V), Reps J.G ω H ds vs → Reps J.G ω H zs ws → Reps J.G ω H (gD ds zs) (gV vs ws)) {σ : L2.St} {H : Hp} {Q : VK}
    (q : canE J true (sCall n m gD F fa fk) σ H Q) : tCallNS n m (spF J.G np F) gV (fun σ => WE J.W σ) (canA J true fa) (canA J true fk) σ H Q := by
  obtain ⟨ω, env, S, s, h⟩ := q
  refine ⟨ω, env, S, s, post_bind h fun ds S1 ω1 H1 vs l1 sim1 r1 h1 => ?_⟩
  refine ⟨ω1, env, S1, sim1, post_bind h1 fun zs S2 ω2 H2 ws l2 sim2 r2 h2 => ?_⟩
  by_cases hc : ds.length = n ∧ zs.length = m
  · rw [if_pos hc] at h2
    have e1 : vs.length = n := (TReps.length r1).symm.trans hc.1
    have e2 : ws.length = m := (TReps.length r2).symm.trans hc.2
    refine ⟨e1, e2, hl vs ws e1 e2, ω2, gD ds zs, S2, sim2.st, hD ω2 H2 ds vs zs ws ((TReps.reps r1).le sim1.st.mu l2) (TReps.reps r2), ?_⟩
    cases hF : F (gD ds zs) S2 with
    | ok d S3 =>
      rw [hF] at h2
      exact fun v H' ω' l s' r => h2 v H' ω' l (sim2.le l s') (Or.inl r)
    | ex e S3 =>
      rw [hF] at h2
      exact fun cls od H' ω' l s' r => h2 cls od H' ω' l (sim2.le l s') r
    | stk => rw [hF] at h2; exact h2
  · rw [if_neg hc] at h2
    exact h2.elim
/-- keywords -/
def PFK (J : Jx) (kws : List Keyword) (f : SA) : Prop := PK J.X kws (canA J true f)
theorem PK.imp {X : Cx} {es : List Keyword} {t t' : TA} (h : PK X es t) (k : ∀ σ H Q, t' σ H Q → t σ H Q) : PK X es t' := ⟨fun p pins s σ H Q I q => h.run p pins s σ H Q I (k σ H Q q)⟩
theorem pfk_nil : PFK J [] sNil := PK.imp pk_nil fun σ H Q ⟨ω, env, S, s, h⟩ => h [] H ω (Le.refl _ _) s True.intro
theorem pfk_cons {nm : Option Str} {e : Expr} {kpos : Pos} {kws : List Keyword} {f : SE} {g : SA} (ha : PF J true e f) (hr : PFK J kws g) : PFK J (⟨nm, e, kpos⟩ :: kws) (sCons f g) := by
  refine PK.imp (pk_cons ha hr) fun σ H Q ⟨ω, env, S, s, h⟩ => ?_
  refine ⟨ω, env, S, s, post_bind h fun x S1 ω1 H1 v l1 sim1 r1 h1 => ?_⟩
  refine ⟨ω1, env, S1, sim1, post_bind h1 fun y S2 ω2 H2 u l2 sim2 r2 h2 => ?_⟩
  exact h2 (v :: u) H2 ω2 (Le.refl _ _) sim2 ⟨r1.le sim1.st.mu l2, r2⟩
/-- what a called def of the module is -/
structure DefOk (J : Jx) (x : Str) (f : Addr) (fd : FuncData) (ps : List Str) (k : Nat) (F : FD) : Prop where
  ok : Fg J.X.prog J.X.w J.X.K J.X.mg J.X.base k f fd ps (spF J.G ps.length F)
  mg : J.X.mg x = some (.ref f)
  kp : PySem.W.keepIn J.X.K (.ref f) = true
theorem shape_len {K : PySem.W.Frag} {gV : List V → List V → List V} {np : Nat} (h : ∀ vs zs : List V, vs.length = n → zs.length = ks.length → (gV vs zs).length = np) : ∀ vs zs : List V, vs.length = n → zs.length = ks.length → (gV vs zs).length = np := h
/-- f(e, .., k = v, ..) -/
theorem pf_callN {F : FD} {e : Expr} {es : List Expr} {kw : Keyword} {kws : List Keyword} {fa fk : SA} (O : DefOk J x f fd ps k F) (gd : J.X.A.guards = some []) (hr : Room k J.X.A) (tk : Takes J.X J.W) {gV : List V → List V → List V} (hb : KBn J.X.K fd ps n ks g gV)
    (hl : ∀ vs zs : List V, vs.length = n → zs.length = ks.length → (gV vs zs).length = ps.length) (hD : ∀ (ω : Wd) (H : Hp) (ds : List D) (vs : List V) (zs : List D) (ws : List V), Reps J.G ω H ds vs → Reps J.G ω H zs ws → Reps J.G ω H (gD ds zs) (gV vs ws))
    (ha : PFA J true (e :: es) fa) (hkw : PFK J (kw :: kws) fk) (hg : Gl J.X x := by rfl) (hall : (backToKw pos (keywordEach (kw :: kws) J.X.env)).all (·.1.isSome) = true := by rfl) (hks : (backToKw pos (keywordEach (kw :: kws) J.X.env)).filterMap (·.1) = ks := by rfl)
    (hdb : (x == ("__debug__" : Str)) = false := by decide) (he : starEach (e :: es) J.X.env = (false, eval e J.X.env) :: starEach es J.X.env := by rfl)
    (hpl : ((backTo pos (starEach (e :: es) J.X.env)).any (·.1) || (backToKw pos (keywordEach (kw :: kws) J.X.env)).any (·.1.isNone)) = false := by rfl) :
    PF J true (.Call (.Name x p) (e :: es) (kw :: kws) pos) (sCall n ks.length gD F fa fk) := by
  refine PE.imp (t := tCallNS n ks.length (spF J.G ps.length F) gV (fun σ => WE J.W σ) (canA J true fa) (canA J true fk)) ⟨fun pins s σ H Q I h => ?_⟩ fun σ H Q q => can_call hl hD q
  refine wpAny_Call_Name_kw (ld_glob I hg O.mg ?_ hdb)
  refine PySem.W.callWith_KW (h₀ := J.X.base) I.ok.mod.kin O.kp hall (thn (ha.run pos pins s σ H _ I h) fun us s1 ⟨vs, H1, I1, r, q⟩ => ?_) hpl he
  refine thn (hkw.run pos pins s1 σ H1 _ I1 q) fun ws s2 ⟨zs, H2, I2, rz, l1, l2, q2⟩ => ⟨I2.kIn, ?_⟩
  rw [hks]
  exact run_fnNS O.ok gd hr hb (passAt tk σ) I2 r rz l1 l2 q2
/-- f(k = v, ..) -/
theorem pf_callN0 {F : FD} {kw : Keyword} {kws : List Keyword} {fk : SA} (O : DefOk J x f fd ps k F) (gd : J.X.A.guards = some []) (hr : Room k J.X.A) (tk : Takes J.X J.W) {gV : List V → List V → List V} (hb : KBn J.X.K fd ps 0 ks g gV)
    (hl : ∀ vs zs : List V, vs.length = 0 → zs.length = ks.length → (gV vs zs).length = ps.length) (hD : ∀ (ω : Wd) (H : Hp) (ds : List D) (vs : List V) (zs : List D) (ws : List V), Reps J.G ω H ds vs → Reps J.G ω H zs ws → Reps J.G ω H (gD ds zs) (gV vs ws))
    (hkw : PFK J (kw :: kws) fk) (hg : Gl J.X x := by rfl) (hall : (backToKw pos (keywordEach (kw :: kws) J.X.env)).all (·.1.isSome) = true := by rfl) (hks : (backToKw pos (keywordEach (kw :: kws) J.X.env)).filterMap (·.1) = ks := by rfl)
    (hdb : (x == ("__debug__" : Str)) = false := by decide) (hpl : ((backTo pos (starEach [] J.X.env)).any (·.1) || (backToKw pos (keywordEach (kw :: kws) J.X.env)).any (·.1.isNone)) = false := by rfl) :
    PF J true (.Call (.Name x p) [] (kw :: kws) pos) (sCall 0 ks.length gD F sNil fk) := by
  refine PE.imp (t := tCallNS 0 ks.length (spF J.G ps.length F) gV (fun σ => WE J.W σ) (canA J true sNil) (canA J true fk)) ⟨fun pins s σ H Q I h => ?_⟩ fun σ H Q q => can_call hl hD q
  refine wpAny_Call_Name_kw (ld_glob I hg O.mg ?_ hdb)
  have h' := h
  refine PySem.W.callWith_KW0 (h₀ := J.X.base) I.ok.mod.kin O.kp hall ?_ hpl
  have hA : PA J.X [] (canA J true sNil) := pfa_nil
  obtain ⟨ω, env, S, sm, hq⟩ := h
  have q := hq [] H ω (Le.refl _ _) sm True.intro
  refine thn (hkw.run pos pins s σ H _ I q) fun ws s2 ⟨zs, H2, I2, rz, l1, l2, q2⟩ => ⟨I2.kIn, ?_⟩
  rw [hks]
  exact run_fnNS (us := []) (vs := []) O.ok gd hr hb (passAt tk σ) I2 .nil rz l1 l2 q2
/-- f(e, ..) -/
theorem pf_call {F : FD} {e : Expr} {es : List Expr} {fa : SA} (O : DefOk J x f fd ps k F) (gd : J.X.A.guards = some []) (hr : Room k J.X.A) (tk : Takes J.X J.W) {gV : List V → List V → List V} (hb : KBn J.X.K fd ps n [] g gV)
    (hl : ∀ vs zs : List V, vs.length = n → zs.length = 0 → (gV vs zs).length = ps.length) (hD : ∀ (ω : Wd) (H : Hp) (ds : List D) (vs : List V) (zs : List D) (ws : List V), Reps J.G ω H ds vs → Reps J.G ω H zs ws → Reps J.G ω H (gD ds zs) (gV vs ws))
    (ha : PFA J true (e :: es) fa) (hg : Gl J.X x := by rfl) (hdb : (x == ("__debug__" : Str)) = false := by decide) (he : starEach (e :: es) J.X.env = (false, eval e J.X.env) :: starEach es J.X.env := by rfl) (hpl : (backTo pos (starEach es J.X.env)).any (·.1) = false := by rfl) :
    PF J true (.Call (.Name x p) (e :: es) [] pos) (sCall n 0 gD F fa sNil) := by
  refine PE.imp (t := tCallNS n 0 (spF J.G ps.length F) gV (fun σ => WE J.W σ) (canA J true fa) (canA J true sNil)) ⟨fun pins s σ H Q I h => ?_⟩ fun σ H Q q => can_call hl hD q
  refine wpAny_Call_Name_kw (ld_glob I hg O.mg ?_ hdb)
  refine PySem.W.callWith_K (h₀ := J.X.base) I.ok.mod.kin O.kp (thn (ha.run pos pins s σ H _ I h) fun us s1 ⟨vs, H1, I1, r, q⟩ => ⟨I1.kIn, ?_⟩) he hpl
  obtain ⟨ω, env, S, sm, hq⟩ := q
  obtain ⟨l1, l2, q2⟩ := hq [] H1 ω (Le.refl _ _) sm True.intro
  exact run_fnNS (ws := []) (zs := []) O.ok gd hr hb (passAt tk σ) I1 r .nil l1 l2 q2
/-- f() -/
theorem pf_call0 {F : FD} (O : DefOk J x f fd ps k F) (gd : J.X.A.guards = some []) (hr : Room k J.X.A) (tk : Takes J.X J.W) {gV : List V → List V → List V} (hb : KBn J.X.K fd ps 0 [] g gV)
    (hl : ∀ vs zs : List V, vs.length = 0 → zs.length = 0 → (gV vs zs).length = ps.length) (hD : ∀ (ω : Wd) (H : Hp) (ds : List D) (vs : List V) (zs : List D) (ws : List V), Reps J.G ω H ds vs → Reps J.G ω H zs ws → Reps J.G ω H (gD ds zs) (gV vs ws))
    (hg : Gl J.X x := by rfl) (hdb : (x == ("__debug__" : Str)) = false := by decide) :
    PF J true (.Call (.Name x p) [] [] pos) (sCall 0 0 gD F sNil sNil) := by
  refine PE.imp (t := tCallNS 0 0 (spF J.G ps.length F) gV (fun σ => WE J.W σ) (canA J true sNil) (canA J true sNil)) ⟨fun pins s σ H Q I h => ?_⟩ fun σ H Q q => can_call hl hD q
  refine wpAny_Call_Name_kw (ld_glob I hg O.mg ?_ hdb)
  obtain ⟨ω, env, S, sm, hq⟩ := h
  obtain ⟨ω2, env2, S2, sm2, hq2⟩ := hq [] H ω (Le.refl _ _) sm True.intro
  obtain ⟨l1, l2, q2⟩ := hq2 [] H ω2 (Le.refl _ _) sm2 True.intro
  exact PySem.W.callWith_K0 I.kIn O.kp (run_fnNS (us := []) (vs := []) (ws := []) (zs := []) O.ok gd hr hb (passAt tk σ) I .nil .nil l1 l2 q2)
end
end PF

/-! PF, part f: operators and built-ins on data. -/
namespace PF
open PySem L2

/-! ### what data are, where lists may stand in the store -/
def asL (S : Sto) (d : D) : Option (List D) := match d with
  | .lst xs => some xs
  | .ref n => match S[n]? with
    | some (.lst xs) => some xs
    | _ => none
  | _ => none
def asQ (S : Sto) (d : D) : Option (List D) := match d with
  | .lst xs => some xs
  | .tup xs => some xs
  | .scr ns => some (ns.map D.int)
  | .ref n => match S[n]? with
    | some (.lst xs) => some xs
    | _ => none
  | _ => none
mutual
/-- data as Python data; rf: what the references stand for -/
def toPR (rf : Nat → Option PyData) : D → Option PyData
  | .non => some .none
  | .bl b => some (.bool b)
  | .int i => some (.int i)
  | .str x => some (.str x)
  | .tup xs => (toPsR rf xs).map .tuple
  | .lst xs => (toPsR rf xs).map .list
  | .scr ns => some (.list (ns.map .int))
  | .ref n => rf n
  | _ => none
def toPsR (rf : Nat → Option PyData) : List D → Option (List PyData)
  | [] => some []
  | d :: ds => match toPR rf d, toPsR rf ds with
    | some p, some ps => some (p :: ps)
    | _, _ => none
end
def rfN (S : Sto) : Nat → Nat → Option PyData
  | 0, _ => none
  | k + 1, n => match S[n]? with
    | some (.lst xs) => (toPsR (rfN S k) xs).map .list
    | _ => none
abbrev toP (S : Sto) : D → Option PyData := toPR (rfN S 3)
abbrev toPs (S : Sto) : List D → Option (List PyData) := toPsR (rfN S 3)
section
variable {G : Gc} {ω : Wd} {H : Hp} {env : En} {S : Sto} {σ : L2.St} {anc : Anc}
theorem trep_ref {st : Bool} {n : Nat} {v : V} (r : TRep G ω H env σ st (.ref n) v) : ∃ a, v = .ref a ∧ ω.m[n]? = some a := by
  rcases r with r | ⟨_, i, o, _, e, _⟩
  · cases r with | ref h => exact ⟨_, rfl, h⟩
  · cases o <;> cases e
theorem trep_lst {d : D} {v : V} {xs : List D} (s : Sim G anc ω env S σ H) (r : TRep G ω H env σ false d v) (e : asL S d = some xs) : ∃ a vs, v = .ref a ∧ H a = some (.lst vs) ∧ Reps G ω H xs vs := by
  cases d with
  | lst ys =>
    cases e
    rcases r with r | ⟨_, i, o, he, e, hs⟩
    · cases r with | lst h n q => exact ⟨_, _, rfl, h, q⟩
    · cases o with
      | lst zs =>
        cases e
        obtain ⟨w, ew, a, ea, ⟨vs, h, q⟩, _⟩ := s.vals i _ he
        rw [hs] at ew
        cases ew
        exact ⟨a, vs, ea, h, q⟩
      | dct _ _ => cases e
      | ins _ _ _ => cases e
  | ref n =>
    obtain ⟨a, rfl, hm⟩ := trep_ref r
    unfold asL at e
    simp only at e
    cases hS : S[n]? with
    | none => rw [hS] at e; cases e
    | some o =>
      rw [hS] at e
      cases o with
      | lst ys =>
        cases e
        obtain ⟨b, hb, vs, h, q⟩ := s.st.obj n _ hS
        rw [hm] at hb
        cases hb
        exact ⟨a, vs, rfl, h, q⟩
      | dct _ _ => cases e
      | ins _ _ _ => cases e
  | _ => cases e
theorem own_lst {xs : List D} {o : MO} (e : D.lst xs = moD o) : o = .lst xs := by cases o <;> cases e; rfl
theorem trep_nown {d : D} {v : V} (h : ∀ o, d ≠ moD o) (r : TRep G ω H env σ false d v) : Rep G ω H d v := by
  rcases r with r | ⟨_, i, o, _, e, _⟩
  · exact r
  · exact (h o e).elim
theorem trep_int {i : Int} {v : V} (r : TRep G ω H env σ false (.int i) v) : v = .int i := by cases trep_nown (fun o e => by cases o <;> cases e) r; rfl
theorem trep_str {x : Str} {v : V} (r : TRep G ω H env σ false (.str x) v) : v = .str x := by cases trep_nown (fun o e => by cases o <;> cases e) r; rfl
theorem trep_non {v : V} (r : TRep G ω H env σ false .non v) : v = .non := by cases trep_nown (fun o e => by cases o <;> cases e) r; rfl
theorem trep_bl {b : Bool} {v : V} (r : TRep G ω H env σ false (.bl b) v) : v = .bl b := by cases trep_nown (fun o e => by cases o <;> cases e) r; rfl
theorem trep_tup {xs : List D} {v : V} (r : TRep G ω H env σ false (.tup xs) v) : ∃ a vs, v = .ref a ∧ H a = some (.tup vs) ∧ ¬ ω.U a ∧ Reps G ω H xs vs := by
  cases trep_nown (fun o e => by cases o <;> cases e) r with | tup h n q => exact ⟨_, _, rfl, h, n, q⟩
theorem scr_sql {K : PySem.W.Frag} {a : Addr} {ns : List Int} (h : ScrAt K ω H a ns) : SqL K H a (ns.map V.int) := by
  rcases h with ⟨h, _⟩ | h
  · exact .inl h
  · exact .inr h
theorem trep_seq {d : D} {v : V} {xs : List D} (s : Sim G anc ω env S σ H) (r : TRep G ω H env σ false d v) (e : asQ S d = some xs) : ∃ a vs, v = .ref a ∧ (SqL G.K H a vs ∨ SqT G.K H a vs) ∧ Reps G ω H xs vs := by
  cases d with
  | tup ys =>
    cases e
    obtain ⟨a, vs, rfl, h, _, q⟩ := trep_tup r
    exact ⟨a, vs, rfl, .inr (SqT.of h), q⟩
  | scr ns =>
    cases e
    cases trep_nown (fun o e => by cases o <;> cases e) r with | scr h => exact ⟨_, _, rfl, .inl (scr_sql h), Reps.of_ints ns⟩
  | lst ys =>
    obtain ⟨a, vs, ev, h, q⟩ := trep_lst s r (xs := xs) e
    exact ⟨a, vs, ev, .inl (SqL.of h), q⟩
  | ref n =>
    obtain ⟨a, vs, ev, h, q⟩ := trep_lst s r (xs := xs) e
    exact ⟨a, vs, ev, .inl (SqL.of h), q⟩
  | _ => cases e
theorem dpa_ints (K : PySem.W.Frag) (H : Hp) : ∀ ns : List Int, DpAll K H (ns.map V.int) (ns.map PyData.int)
  | [] => .nil
  | n :: ns => .cons (.int n) (dpa_ints K H ns)
mutual
theorem dp_R {rf : Nat → Option PyData} (hr : ∀ n p a, rf n = some p → ω.m[n]? = some a → Dp G.K H (.ref a) p) : ∀ (d : D) (v : V) (p : PyData), Rep G ω H d v → toPR rf d = some p → Dp G.K H v p
  | .non, _, _, r, e => by cases r; cases e; exact .non
  | .bl b, _, _, r, e => by cases r; cases e; exact .bl b
  | .int i, _, _, r, e => by cases r; cases e; exact .int i
  | .str x, _, _, r, e => by cases r; cases e; exact .str x
  | .tup xs, _, p, r, e => by
    unfold toPR at e
    cases hp : toPsR rf xs with
    | none => rw [hp] at e; cases e
    | some ps => rw [hp] at e; cases e; cases r with | tup h n q => exact .tup (SqT.of h) (dps_R hr xs _ ps q hp)
  | .lst xs, _, p, r, e => by
    unfold toPR at e
    cases hp : toPsR rf xs with
    | none => rw [hp] at e; cases e
    | some ps => rw [hp] at e; cases e; cases r with | lst h n q => exact .lst (SqL.of h) (dps_R hr xs _ ps q hp)
  | .scr ns, _, _, r, e => by
    cases r with
    | scr h => cases e; exact .lst (scr_sql h) (dpa_ints _ _ ns)
  | .ref n, _, p, r, e => by cases r with | ref hm => exact hr n p _ e hm
  | .dct _ _, _, _, _, e => by cases e
  | .exn _ _ _, _, _, _, e => by cases e
theorem dps_R {rf : Nat → Option PyData} (hr : ∀ n p a, rf n = some p → ω.m[n]? = some a → Dp G.K H (.ref a) p) : ∀ (ds : List D) (vs : List V) (ps : List PyData), Reps G ω H ds vs → toPsR rf ds = some ps → DpAll G.K H vs ps
  | [], _, _, r, e => by cases r; cases e; exact .nil
  | d :: ds, _, ps, r, e => by
    unfold toPsR at e
    cases r with
    | cons a b =>
      cases h1 : toPR rf d with
      | none => rw [h1] at e; cases e
      | some p =>
        cases h2 : toPsR rf ds with
        | none => rw [h1, h2] at e; cases e
        | some qs => rw [h1, h2] at e; cases e; exact .cons (dp_R hr d _ p a h1) (dps_R hr ds _ qs b h2)
end
theorem rf_ok (s : Sim0 G ω S H) : ∀ (k n : Nat) (p : PyData) (a : Addr), rfN S k n = some p → ω.m[n]? = some a → Dp G.K H (.ref a) p
  | 0, _, _, _, e, _ => by cases e
  | k + 1, n, p, a, e, hm => by
    unfold rfN at e
    cases hS : S[n]? with
    | none => rw [hS] at e; cases e
    | some o =>
      rw [hS] at e
      cases o with
      | lst ys =>
        simp only at e
        cases hp : toPsR (rfN S k) ys with
        | none => rw [hp] at e; cases e
        | some ps =>
          rw [hp] at e
          cases e
          obtain ⟨b, hb, vs, h, q⟩ := s.obj n _ hS
          rw [hm] at hb
          cases hb
          exact .lst (SqL.of h) (dps_R (rf_ok s k) ys _ ps q hp)
      | dct _ _ => cases e
      | ins _ _ _ => cases e
theorem dp_rep (s : Sim0 G ω S H) (d : D) (v : V) (p : PyData) (r : Rep G ω H d v) (e : toP S d = some p) : Dp G.K H v p := dp_R (rf_ok s 3) d v p r e
theorem dps_rep (s : Sim0 G ω S H) (ds : List D) (vs : List V) (ps : List PyData) (r : Reps G ω H ds vs) (e : toPs S ds = some ps) : DpAll G.K H vs ps := dps_R (rf_ok s 3) ds vs ps r e
theorem trep_dp {d : D} {v : V} {p : PyData} (s : Sim G anc ω env S σ H) (r : TRep G ω H env σ false d v) (e : toP S d = some p) : Dp G.K H v p := by
  rcases r with r | ⟨_, i, o, he, ed, hs⟩
  · exact dp_rep s.st d v p r e
  · subst ed
    obtain ⟨w, ew, a, ea, ro, _⟩ := s.vals i _ he
    rw [hs] at ew
    cases ew
    subst ea
    cases o with
    | lst xs =>
      obtain ⟨vs, h, q⟩ := ro
      unfold moD toP toPR at e
      cases hp : toPs S xs with
      | none => simp only [hp] at e; cases e
      | some ps => simp only [hp] at e; cases e; exact .lst (SqL.of h) (dps_rep s.st xs _ ps q hp)
    | dct _ _ => cases e
    | ins c ns xs => cases e
end

section
variable {J : Jx}
abbrev LB (n : Nat) : Bool := decide (n ≤ 1000000)
theorem lb_line {n : Nat} (h : LB n = true) : n ≤ sizeLine := by
  rw [sizeLine_eq]
  have := of_decide_eq_true h
  omega
/-- a result that is no object -/
theorem fin_int {ω : Wd} {env : En} {S : Sto} {σ : L2.St} {H : Hp} {Q : VK} {i : Int} (s : Sim J.G J.anc ω env S σ H) (h : PostR J σ env ω H (fun ω' H' d v => TRep J.G ω' H' env σ true d v) (.ok (.int i) S) Q) : Q (.int i) H :=
  h _ H ω (Le.refl _ _) s (Or.inl .int)
theorem fin_bl {ω : Wd} {env : En} {S : Sto} {σ : L2.St} {H : Hp} {Q : VK} {b : Bool} (s : Sim J.G J.anc ω env S σ H) (h : PostR J σ env ω H (fun ω' H' d v => TRep J.G ω' H' env σ true d v) (.ok (.bl b) S) Q) : Q (.bl b) H :=
  h _ H ω (Le.refl _ _) s (Or.inl .bl)
theorem fin_str {ω : Wd} {env : En} {S : Sto} {σ : L2.St} {H : Hp} {Q : VK} {x : Str} (s : Sim J.G J.anc ω env S σ H) (h : PostR J σ env ω H (fun ω' H' d v => TRep J.G ω' H' env σ true d v) (.ok (.str x) S) Q) : Q (.str x) H :=
  h _ H ω (Le.refl _ _) s (Or.inl .str)
theorem fin_non {ω : Wd} {env : En} {S : Sto} {σ : L2.St} {H : Hp} {Q : VK} (s : Sim J.G J.anc ω env S σ H) (h : PostR J σ env ω H (fun ω' H' d v => TRep J.G ω' H' env σ true d v) (.ok .non S) Q) : Q .non H :=
  h _ H ω (Le.refl _ _) s (Or.inl .non)
theorem fin_rep {ω : Wd} {env : En} {S : Sto} {σ : L2.St} {H : Hp} {Q : VK} {d : D} {v : V} (s : Sim J.G J.anc ω env S σ H) (h : PostR J σ env ω H (fun ω' H' d v => TRep J.G ω' H' env σ true d v) (.ok d S) Q) (r : Rep J.G ω H d v) : Q v H :=
  h _ H ω (Le.refl _ _) s (Or.inl r)
theorem fin_tup {ω : Wd} {env : En} {S : Sto} {σ : L2.St} {H : Hp} {Q : VK} {xs : List D} {vs : List V} {p : Addr} (s : Sim J.G J.anc ω env S σ H) (h : PostR J σ env ω H (fun ω' H' d v => TRep J.G ω' H' env σ true d v) (.ok (.tup xs) S) Q) (n : H p = none) (r : Reps J.G ω H xs vs) : Q (.ref p) (upd H p (.tup vs)) :=
  h _ _ ω (Le.new n) (s.new n) (Or.inl (.tup upd_same (s.nU n) (r.le s.st.mu (Le.new n))))
theorem fin_lst {ω : Wd} {env : En} {S : Sto} {σ : L2.St} {H : Hp} {Q : VK} {xs : List D} {vs : List V} {p : Addr} (s : Sim J.G J.anc ω env S σ H) (h : PostR J σ env ω H (fun ω' H' d v => TRep J.G ω' H' env σ true d v) (.ok (.lst xs) S) Q) (n : H p = none) (r : Reps J.G ω H xs vs) : Q (.ref p) (upd H p (.lst vs)) :=
  h _ _ ω (Le.new n) (s.new n) (Or.inl (.lst upd_same (s.nU n) (r.le s.st.mu (Le.new n))))
/-- a new list that nothing holds yet -/
theorem fin_new {ω : Wd} {env : En} {S : Sto} {σ : L2.St} {H : Hp} {Q : VK} {xs : List D} {vs : List V} {p : Addr} {ω0 : Wd} {H0 : Hp} (s : Sim J.G J.anc ω env S σ H) (l0 : Le ω0 H0 ω H) (h : PostR J σ env ω0 H0 (fun ω' H' o v => LRel J.G H0 ω' H' o v) (.ok (.lst xs) S) Q) (n : H p = none) (r : Reps J.G ω H xs vs) : Q (.ref p) (upd H p (.lst vs)) := by
  have l : Le ω H (ω.ins p) (upd H p (.lst vs)) := (Le.new n).ins n
  have n0 := l0.dom p n
  refine h _ _ (ω.ins p) (l0.trans l) (s.le l ⟨fun a h => .inl (s.st.mu a h), fun a h => ?_, s.st.mem, s.st.nd, s.st.len, fun k o e => ?_⟩) ⟨p, rfl, n0, ⟨vs, upd_same, r.le s.st.mu l⟩, .inr rfl, fun z => s.nU n (s.st.mu p z), fun _ _ _ z => nomatch z⟩
  · rcases h with h | rfl
    · exact fun z => s.st.ud a h ((Le.new (ω := ω) n).dom a z)
    · rw [upd_same]; exact fun z => nomatch z
  · obtain ⟨a, ha, q⟩ := s.st.obj k o e
    exact ⟨a, ha, q.le s.st.mu l fun u hu => by rw [upd_ne (ne_of_none hu n)]; exact hu⟩
/-! ### arithmetic -/
def gAdd : G2 := fun S x y => match x, y with
  | .int i, .int j => .ok (.int (i + j)) S
  | .str a, .str b => if LB (a.length + b.length) then .ok (.str (a ++ b)) S else .stk
  | .tup a, .tup b => if LB (a.length + b.length) then .ok (.tup (a ++ b)) S else .stk
  | x, y => match asL S x, asL S y with
    | some a, some b => if LB (a.length + b.length) then .ok (.lst (a ++ b)) S else .stk
    | _, _ => .stk
def rAddA (K : PySem.W.Frag) : L2.R2 := fun x y H Q => rI0 (fun i j => .int (i + j)) x y H Q ∨ ((∃ i j, x = .str i ∧ y = .str j ∧ i.length + j.length ≤ sizeLine ∧ Q (.str (i ++ j)) H) ∨ (rCatA K x y H Q ∨ rCat x y H Q))
theorem op_addA {X : Cx} : OpR X (binaryOp .Add) (rAddA X.K) := OpR.or op_add (OpR.or op_add_str (OpR.or op_catA op_cat))
theorem opd_add : OpD J (rAddA J.X.K) gAdd := by
  intro ω env S σ H x y v u Q s rx ry h
  unfold gAdd at h
  split at h
  · cases trep_int rx
    cases trep_int ry
    exact .inl ⟨_, _, rfl, rfl, fin_int s h⟩
  · cases trep_str rx
    cases trep_str ry
    split at h
    · exact .inr (.inl ⟨_, _, rfl, rfl, lb_line (by assumption), fin_str s h⟩)
    · exact h.elim
  · split at h
    · obtain ⟨a, va, rfl, ha, na, ra⟩ := trep_tup rx
      obtain ⟨b, vb, rfl, hb, nb, rb⟩ := trep_tup ry
      have la := ra.length
      have lb := rb.length
      refine .inr (.inr (.inl ⟨a, b, va, vb, rfl, rfl, SqT.of ha, SqT.of hb, lb_line (by rw [← la, ← lb]; assumption), fun e => ?_, fun e1 e2 => ?_, fun e1 e2 p hp => ?_⟩))
      · subst e
        cases ra
        exact fin_rep s h (.tup hb nb rb)
      · subst e2
        cases rb
        rw [List.append_nil] at h
        exact fin_rep s h (.tup ha na ra)
      · exact fin_tup s h hp (ra.append rb)
    · exact h.elim
  · split at h
    · rename_i _ _ _ a b e1 e2
      split at h
      · obtain ⟨p, va, rfl, ha, ra⟩ := trep_lst s rx e1
        obtain ⟨q, vb, rfl, hb, rb⟩ := trep_lst s ry e2
        have la := ra.length
        have lb := rb.length
        refine .inr (.inr (.inr ⟨p, q, va, vb, rfl, rfl, ha, hb, lb_line (by rw [← la, ← lb]; assumption), fun r hr => fin_lst s h hr (ra.append rb)⟩))
      · exact h.elim
    · exact h.elim
theorem pf_add {a b : Expr} {fa fb : SE} {s1 s2 : Bool} {pos : Pos} (ha : PF J s1 a fa) (hb : PF J s2 b fb) : PF J true (.BinOp a .Add b pos) (sBin gAdd fa fb) := pf_bin op_addA opd_add ha hb
/-- a list and a list: a new list -/
def gCat (fa fb : SE) : SL := fun env S => (fa env S).bind fun x S1 => (fb env S1).bind fun y S2 => match asL S2 x, asL S2 y with
  | some a, some b => if LB (a.length + b.length) then .ok (.lst (a ++ b)) S2 else .stk
  | _, _ => .stk
theorem pfl_cat {a b : Expr} {fa fb : SE} {s1 s2 : Bool} {pos : Pos} (ha : PF J s1 a fa) (hb : PF J s2 b fb) : PFL J (.BinOp a .Add b pos) (gCat fa fb) := by
  refine PE.imp (pe_op op_cat ha hb) fun σ H Q ⟨ω, env, S, s, h⟩ => ?_
  refine ⟨ω, env, S, s, post_bind0 h fun x S1 ω1 H1 v l1 s1 r1 h1 => ?_⟩
  refine ⟨ω1, env, S1, s1, post_bind1 l1 h1 fun y S2 ω2 H2 u l2 s2 r2 h2 => ?_⟩
  have r1' := r1.any.le s1.st.mu l2
  split at h2
  · rename_i xa xb e1 e2
    split at h2
    · obtain ⟨p, va, rfl, ha, ra⟩ := trep_lst s2 r1' e1
      obtain ⟨q, vb, rfl, hb, rb⟩ := trep_lst s2 r2.any e2
      have la := ra.length
      have lb := rb.length
      exact ⟨p, q, va, vb, rfl, rfl, ha, hb, lb_line (by rw [← la, ← lb]; assumption), fun r hr => fin_new s2 (l1.trans l2) h2 hr (ra.append rb)⟩
    · exact h2.elim
  · exact h2.elim
/-- two ints -/
def gI (c : Int → Int → Bool) (g : Int → Int → Int) : G2 := fun S x y => match x, y with
  | .int i, .int j => if c i j then .ok (.int (g i j)) S else .stk
  | _, _ => .stk
theorem opd_I {C : Int → Int → Prop} {c : Int → Int → Bool} {g : Int → Int → Int} (hc : ∀ i j, c i j = true → C i j) : OpD J (rI C fun i j => .int (g i j)) (gI c g) := by
  intro ω env S σ H x y v u Q s rx ry h
  unfold gI at h
  split at h
  · cases trep_int rx
    cases trep_int ry
    split at h
    · exact ⟨_, _, rfl, rfl, hc _ _ (by assumption), fin_int s h⟩
    · exact h.elim
  · exact h.elim
theorem opd_I0 {g : Int → Int → Int} : OpD J (rI0 fun i j => .int (g i j)) (gI (fun _ _ => true) g) := by
  intro ω env S σ H x y v u Q s rx ry h
  unfold gI at h
  split at h
  · cases trep_int rx
    cases trep_int ry
    exact ⟨_, _, rfl, rfl, fin_int s h⟩
  · exact h.elim
abbrev gSub : G2 := gI (fun _ _ => true) fun i j => i - j
theorem pf_sub {a b : Expr} {fa fb : SE} {s1 s2 : Bool} {pos : Pos} (ha : PF J s1 a fa) (hb : PF J s2 b fb) : PF J true (.BinOp a .Sub b pos) (sBin gSub fa fb) := pf_bin op_sub opd_I0 ha hb
def cMod (_ j : Int) : Bool := decide (j ≠ 0)
abbrev gMod : G2 := gI cMod fun i j => i.fmod j
theorem pf_mod {a b : Expr} {fa fb : SE} {s1 s2 : Bool} {pos : Pos} (ha : PF J s1 a fa) (hb : PF J s2 b fb) : PF J true (.BinOp a .Mod b pos) (sBin gMod fa fb) := pf_bin op_modN (opd_I fun _ _ h => of_decide_eq_true h) ha hb
def cDiv (_ j : Int) : Bool := decide (j ≠ 0) && decide (j.natAbs < 1073741824)
abbrev gDiv : G2 := gI cDiv fun i j => i.fdiv j
theorem pf_div {a b : Expr} {fa fb : SE} {s1 s2 : Bool} {pos : Pos} (ha : PF J s1 a fa) (hb : PF J s2 b fb) : PF J true (.BinOp a .FloorDiv b pos) (sBin gDiv fa fb) :=
  pf_bin op_fdivN (opd_I fun _ _ h => ⟨of_decide_eq_true (Bool.and_eq_true_iff.mp h).1, of_decide_eq_true (Bool.and_eq_true_iff.mp h).2⟩) ha hb
def cPow (i j : Int) : Bool := decide (0 ≤ j) && (decide (j ≤ 1000000) && decide (i.natAbs < 2 ^ 64))
theorem cPow_ok (i j : Int) (h : cPow i j = true) : CPow i j := by
  unfold cPow at h
  simp only [Bool.and_eq_true, decide_eq_true_eq] at h
  exact h
abbrev gPow : G2 := gI cPow fun i j => i ^ j.toNat
theorem pf_pow {a b : Expr} {fa fb : SE} {s1 s2 : Bool} {pos : Pos} (ha : PF J s1 a fa) (hb : PF J s2 b fb) : PF J true (.BinOp a .Pow b pos) (sBin gPow fa fb) := pf_bin op_pow (opd_I cPow_ok) ha hb
abbrev gShl : G2 := gI cPow fun i j => i * 2 ^ j.toNat
theorem pf_shl {a b : Expr} {fa fb : SE} {s1 s2 : Bool} {pos : Pos} (ha : PF J s1 a fa) (hb : PF J s2 b fb) : PF J true (.BinOp a .LShift b pos) (sBin gShl fa fb) := pf_bin op_shl (opd_I cPow_ok) ha hb
def cMul (i j : Int) : Bool := decide (i.natAbs < 2 ^ 64) || (decide (j.natAbs < 2 ^ 64) || (decide (i.natAbs < 2 ^ 4096) && decide (j.natAbs < 2 ^ 4096)))
/-- products; a list or a tuple and a number -/
def gMul : G2 := fun S x y => match x, y with
  | .int i, .int j => if cMul i j then .ok (.int (i * j)) S else .stk
  | .tup xs, .int k => if xs ≠ [] ∧ 2 ≤ k ∧ k ≤ 1000 ∧ xs.length ≤ 1000 then .ok (.tup (List.replicate k.toNat xs).flatten) S else .stk
  | x, .int k => match asL S x with
    | some a => if -1000000 ≤ k ∧ k ≤ 1000000 ∧ a.length * k.toNat ≤ 1000000 then .ok (.lst (List.replicate k.toNat a).flatten) S else .stk
    | _ => .stk
  | _, _ => .stk
def rMulA (K : PySem.W.Frag) : L2.R2 := fun x y H Q => rI CMul (fun i j => .int (i * j)) x y H Q ∨ (rI CMulW (fun i j => .int (i * j)) x y H Q ∨ (rRepT K x y H Q ∨ rRep x y H Q))
theorem op_mulA {X : Cx} : OpR X (binaryOp .Mult) (rMulA X.K) := OpR.or op_mul (OpR.or op_mulW (OpR.or op_repT op_rep))
theorem opd_mul : OpD J (rMulA J.X.K) gMul := by
  intro ω env S σ H x y v u Q s rx ry h
  unfold gMul at h
  split at h
  · cases trep_int rx
    cases trep_int ry
    split at h
    · rename_i hc
      unfold cMul at hc
      rcases Bool.or_eq_true_iff.mp hc with z | z
      · have z := of_decide_eq_true z
        exact .inl ⟨_, _, rfl, rfl, .inl (by omega), fin_int s h⟩
      · rcases Bool.or_eq_true_iff.mp z with z | z
        · have z := of_decide_eq_true z
          exact .inl ⟨_, _, rfl, rfl, .inr (by omega), fin_int s h⟩
        · obtain ⟨z1, z2⟩ := Bool.and_eq_true_iff.mp z
          exact .inr (.inl ⟨_, _, rfl, rfl, wide_mul (of_decide_eq_true z1) (of_decide_eq_true z2) (by decide) (by decide) (by decide), fin_int s h⟩)
    · exact h.elim
  · split at h
    · rename_i hc
      obtain ⟨h1, h2, h3, h4⟩ := hc
      cases trep_int ry
      obtain ⟨a, va, rfl, ha, na, ra⟩ := trep_tup rx
      have la := ra.length
      refine .inr (.inr (.inl ⟨a, _, va, rfl, rfl, SqT.of ha, fun e => h1 ?_, h2, h3, by omega, fun p hp => fin_tup s h hp (ra.flatten_rep _)⟩))
      rw [e] at la
      exact List.length_eq_zero_iff.mp la
    · exact h.elim
  · split at h
    · rename_i _ _ _ e
      split at h
      · rename_i hc
        cases trep_int ry
        obtain ⟨p, va, rfl, ha, ra⟩ := trep_lst s rx e
        have la := ra.length
        refine .inr (.inr (.inr ⟨p, _, va, rfl, rfl, ha, by omega, by omega, ?_, fun r hr => fin_lst s h hr (ra.flatten_rep _)⟩))
        rw [sizeLine_eq, ← la]
        omega
      · exact h.elim
    · exact h.elim
  · exact h.elim
theorem pf_mul {a b : Expr} {fa fb : SE} {s1 s2 : Bool} {pos : Pos} (ha : PF J s1 a fa) (hb : PF J s2 b fb) : PF J true (.BinOp a .Mult b pos) (sBin gMul fa fb) := pf_bin op_mulA opd_mul ha hb
def sNeg (f : SE) : SE := fun env S => (f env S).bind fun d S1 => match d with
  | .int i => .ok (.int (-i)) S1
  | _ => .stk
theorem pf_neg {a : Expr} {f : SE} {s1 : Bool} {pos : Pos} (ha : PF J s1 a f) : PF J true (.UnaryOp .USub a pos) (sNeg f) := by
  refine PE.imp (pe_un un_neg ha) fun σ H Q ⟨ω, env, S, s, h⟩ => ?_
  refine ⟨ω, env, S, s, post_bind h fun x S1 ω1 H1 v l1 sim1 r1 h1 => ?_⟩
  cases x with
  | int i =>
    cases trep_int r1.any
    exact ⟨i, rfl, fin_int sim1 h1⟩
  | _ => exact h1.elim

/-! ### comparisons -/
def gB (g : Int → Int → Bool) : G2 := fun S x y => match x, y with
  | .int i, .int j => .ok (.bl (g i j)) S
  | _, _ => .stk
theorem opd_B {g : Int → Int → Bool} : OpD J (rI0 fun i j => .bl (g i j)) (gB g) := by
  intro ω env S σ H x y v u Q s rx ry h
  unfold gB at h
  split at h
  · cases trep_int rx
    cases trep_int ry
    exact ⟨_, _, rfl, rfl, fin_bl s h⟩
  · exact h.elim
abbrev gLt : G2 := gB fun i j => decide (i < j)
abbrev gLe : G2 := gB fun i j => decide (i ≤ j)
abbrev gGt : G2 := gB fun i j => decide (j < i)
abbrev gGe : G2 := gB fun i j => decide (j ≤ i)
def gEqP (ng : Bool) : G2 := fun S x y => match x, y with
  | .str a, .str b => .ok (.bl (if ng then !decide (a = b) else decide (a = b))) S
  | .int a, .int b => .ok (.bl (if ng then !decide (a = b) else decide (a = b))) S
  | .bl a, .bl b => .ok (.bl (if ng then !decide (a = b) else decide (a = b))) S
  | x, y => match toP S x, toP S y with
    | some p, some q => if SeqAt.shaped p && SeqAt.shaped q then .ok (.bl (if ng then !PyData.eqv p q else PyData.eqv p q)) S else .stk
    | _, _ => .stk
abbrev gEq : G2 := gEqP false
abbrev gNe : G2 := gEqP true
def rEqA (K : PySem.W.Frag) : L2.R2 := fun x y H Q => rEq x y H Q ∨ rEqD K x y H Q
def rNeA (K : PySem.W.Frag) : L2.R2 := fun x y H Q => rNe x y H Q ∨ rNeD K x y H Q
theorem op_eqA {X : Cx} (hu : X.A.units + 64 < cLine) : OpR X (compareOp .Eq) (rEqA X.K) := OpR.or op_eq (op_eqD hu)
theorem op_neA {X : Cx} (hu : X.A.units + 64 < cLine) : OpR X (compareOp .NotEq) (rNeA X.K) := OpR.or op_ne (op_neD hu)
theorem dec_bl' {i j : Bool} : decide (V.bl i = V.bl j) = decide (i = j) := by rw [Bool.eq_iff_iff]; simp
theorem dec_int' {i j : Int} : decide (V.int i = V.int j) = decide (i = j) := by rw [Bool.eq_iff_iff]; simp
theorem dec_str' {i j : Str} : decide (V.str i = V.str j) = decide (i = j) := by rw [Bool.eq_iff_iff]; simp
theorem opd_eq : OpD J (rEqA J.X.K) gEq := by
  intro ω env S σ H x y v u Q s rx ry h
  unfold gEq gEqP at h
  split at h
  · cases trep_str rx
    cases trep_str ry
    exact .inl ⟨rfl, by rw [dec_str']; exact fin_bl s h⟩
  · cases trep_int rx
    cases trep_int ry
    exact .inl ⟨rfl, by rw [dec_int']; exact fin_bl s h⟩
  · cases trep_bl rx
    cases trep_bl ry
    exact .inl ⟨rfl, by rw [dec_bl']; exact fin_bl s h⟩
  · split at h
    · rename_i p q e1 e2
      split at h
      · rename_i hc
        obtain ⟨h1, h2⟩ := Bool.and_eq_true_iff.mp hc
        exact .inr ⟨p, q, trep_dp s rx e1, trep_dp s ry e2, h1, h2, fin_bl s h⟩
      · exact h.elim
    · exact h.elim
theorem opd_ne : OpD J (rNeA J.X.K) gNe := by
  intro ω env S σ H x y v u Q s rx ry h
  unfold gNe gEqP at h
  split at h
  · cases trep_str rx
    cases trep_str ry
    exact .inl ⟨rfl, by rw [dec_str']; exact fin_bl s h⟩
  · cases trep_int rx
    cases trep_int ry
    exact .inl ⟨rfl, by rw [dec_int']; exact fin_bl s h⟩
  · cases trep_bl rx
    cases trep_bl ry
    exact .inl ⟨rfl, by rw [dec_bl']; exact fin_bl s h⟩
  · split at h
    · rename_i p q e1 e2
      split at h
      · rename_i hc
        obtain ⟨h1, h2⟩ := Bool.and_eq_true_iff.mp hc
        exact .inr ⟨p, q, trep_dp s rx e1, trep_dp s ry e2, h1, h2, fin_bl s h⟩
      · exact h.elim
    · exact h.elim
def gInP (ng : Bool) : G2 := fun S x y => match toP S x, toP S y with
  | some p, some (.list qs) => if SeqAt.shaped p && SeqAt.shaped (.list qs) then .ok (.bl (if ng then !qs.any fun z => PyData.eqv z p else qs.any fun z => PyData.eqv z p)) S else .stk
  | _, _ => .stk
theorem opd_in : OpD J (rInD J.X.K) (gInP false) := by
  intro ω env S σ H x y v u Q s rx ry h
  unfold gInP at h
  split at h
  · rename_i p qs e1 e2
    split at h
    · rename_i hc
      obtain ⟨h1, h2⟩ := Bool.and_eq_true_iff.mp hc
      exact ⟨p, qs, trep_dp s rx e1, trep_dp s ry e2, h1, h2, fin_bl s h⟩
    · exact h.elim
  · exact h.elim
theorem opd_notIn : OpD J (rNotInD J.X.K) (gInP true) := by
  intro ω env S σ H x y v u Q s rx ry h
  unfold gInP at h
  split at h
  · rename_i p qs e1 e2
    split at h
    · rename_i hc
      obtain ⟨h1, h2⟩ := Bool.and_eq_true_iff.mp hc
      exact ⟨p, qs, trep_dp s rx e1, trep_dp s ry e2, h1, h2, fin_bl s h⟩
    · exact h.elim
  · exact h.elim
def isNon : D → Bool
  | .non => true
  | _ => false
theorem isNon_rep {ω : Wd} {H : Hp} {env : En} {S : Sto} {σ : L2.St} {d : D} {v : V} {G : Gc} {anc : Anc} (s : Sim G anc ω env S σ H) (r : TRep G ω H env σ false d v) : decide (v = .non) = isNon d := by
  rcases r with r | ⟨_, i, o, he, e, hs⟩
  · cases r <;> rfl
  · obtain ⟨w, ew, a, ea, _⟩ := s.vals i _ he
    rw [hs] at ew
    cases ew
    subst ea
    subst e
    cases o <;> rfl
/-- an index -/
def gIx : G2 := fun S x y => match x, y with
  | .str z, .int i => if LB z.length then (match atI z.cps.toList i with
      | some c => .ok (.str ⟨#[c]⟩) S
      | none => .stk) else .stk
  | x, .int i => match asQ S x with
    | some xs => match atI xs i with
      | some d => .ok d S
      | none => .stk
    | none => .stk
  | _, _ => .stk
end
end PF

/-! PF, part g: subscripts, built-in calls, displays, iterables, stores. -/
namespace PF
open PySem L2

section
variable {J : Jx}
/-! ### subscripts -/
theorem atI_reps {G : Gc} {ω : Wd} {H : Hp} {xs : List D} {vs : List V} (r : Reps G ω H xs vs) {i : Int} {d : D} (hd : atI xs i = some d) : ∃ w, atI vs i = some w ∧ Rep G ω H d w := by
  obtain ⟨j, hj1, hj2, hj3⟩ := atI_get hd
  obtain ⟨w, hw, rw⟩ := r.get hj2
  refine ⟨w, ?_, rw⟩
  unfold atI at hd ⊢
  rw [← r.length]
  cases hn : ixN xs.length i with
  | none => rw [hn] at hd; cases hd
  | some k =>
    obtain ⟨k1, _⟩ := ixN_seq hn
    rw [hj1] at k1
    cases k1
    exact hw
theorem opd_ix : OpD J (rIx J.X.K) gIx := by
  intro ω env S σ H x y v u Q s rx ry h
  unfold gIx at h
  split at h
  · split at h
    · cases trep_str rx
      cases trep_int ry
      split at h
      · rename_i hl _ c hc
        exact .inr (.inr ⟨_, _, c, rfl, rfl, lb_line hl, hc, fin_str s h⟩)
      · exact h.elim
    · exact h.elim
  · split at h
    · rename_i xs e
      cases trep_int ry
      obtain ⟨a, vs, rfl, hq, r⟩ := trep_seq s rx e
      split at h
      · rename_i d hd
        obtain ⟨w, hat, rw⟩ := atI_reps r hd
        rcases hq with hq | hq
        · exact .inl ⟨a, vs, _, w, rfl, rfl, hq, hat, fin_rep s h rw⟩
        · exact .inr (.inl ⟨a, vs, _, w, rfl, rfl, hq, hat, fin_rep s h rw⟩)
      · exact h.elim
    · exact h.elim
  · exact h.elim
theorem pf_ix {a b : Expr} {fa fb : SE} {s1 s2 : Bool} {pos : Pos} (ha : PF J s1 a fa) (hb : PF J s2 b fb) (hs : PlainIx b := by exact fun _ _ => rfl) : PF J true (.Subscript a b pos) (sBin gIx fa fb) :=
  PE.imp (pe_ix ix_seq ha hb hs) fun _ _ _ q => can_bin opd_ix q
abbrev SOp := En → Sto → R (Option Int)
def canO (J : Jx) (f : SOp) : TO := fun σ H Q => ∃ ω env S, Sim J.G J.anc ω env S σ H ∧ PostR J σ env ω H (fun _ _ (a b : Option Int) => a = b) (f env S) Q
def PFO (J : Jx) (e : Option Expr) (f : SOp) : Prop := PO J.X e (canO J f)
theorem PO.imp {X : Cx} {e : Option Expr} {t t' : TO} (h : PO X e t) (k : ∀ σ H Q, t' σ H Q → t σ H Q) : PO X e t' := ⟨fun pins s σ H Q I q => h.run pins s σ H Q I (k σ H Q q)⟩
def sNo : SOp := fun _ S => .ok none S
def sPart (f : SE) : SOp := fun env S => (f env S).bind fun d S1 => match d with
  | .int i => .ok (some i) S1
  | _ => .stk
theorem pfo_none : PFO J none sNo := PO.imp po_none fun σ H Q ⟨ω, env, S, s, h⟩ => h none H ω (Le.refl _ _) s rfl
theorem pfo_some {e : Expr} {f : SE} {s1 : Bool} (h : PF J s1 e f) : PFO J (some e) (sPart f) := by
  refine PO.imp (po_some h) fun σ H Q ⟨ω, env, S, s, h⟩ => ?_
  refine ⟨ω, env, S, s, post_bind h fun x S1 ω1 H1 v l1 sim1 r1 h1 => ?_⟩
  cases x with
  | int i =>
    cases trep_int r1.any
    exact ⟨i, rfl, h1 (some i) H1 ω1 (Le.refl _ _) sim1 rfl⟩
  | _ => exact h1.elim
def cutD (xs : List D) (lo hi : Option Int) : List D := (xs.drop (HT.sIx xs.length 0 lo)).take (HT.sIx xs.length xs.length hi - HT.sIx xs.length 0 lo)
def gSl (S : Sto) (x : D) (lo hi : Option Int) : R D := match x with
  | .str z => if LB z.length then .ok (.str (cutS z lo hi)) S else .stk
  | .tup xs => .ok (.tup (cutD xs lo hi)) S
  | x => match asQ S x with
    | some xs => .ok (.lst (cutD xs lo hi)) S
    | none => .stk
def sSl (f : SE) (fl fh : SOp) : SE := fun env S => (f env S).bind fun x S1 => (fl env S1).bind fun lo S2 => (fh env S2).bind fun hi S3 => gSl S3 x lo hi
def rSlX (K : PySem.W.Frag) : V → Option Int → Option Int → Hp → VK → Prop := fun x lo hi H Q => rSlL K x lo hi H Q ∨ (rSlA K x lo hi H Q ∨ rSlS x lo hi H Q)
theorem sl_any {X : Cx} : SlR X (rSlX X.K) := SlR.or sl_list (SlR.or sl_tupA sl_str)
theorem reps_cut {G : Gc} {ω : Wd} {H : Hp} {xs : List D} {vs : List V} (r : Reps G ω H xs vs) (lo hi : Option Int) : Reps G ω H (cutD xs lo hi) (cutV vs lo hi) := by
  unfold cutD cutV
  rw [r.length]
  exact (r.drop _).take _
theorem cut_whole {xs : List D} {lo hi : Option Int} (h : HT.sIx xs.length 0 lo = 0 ∧ HT.sIx xs.length xs.length hi = xs.length) : cutD xs lo hi = xs := by
  unfold cutD
  rw [h.1, h.2]
  simp
theorem pf_slice {e : Expr} {lo hi : Option Expr} {f : SE} {fl fh : SOp} {s1 : Bool} {p2 pos : Pos} (he : PF J s1 e f) (hl : PFO J lo fl) (hh : PFO J hi fh) : PF J true (.Subscript e (.Slice lo hi none p2) pos) (sSl f fl fh) := by
  refine PE.imp (pe_slice sl_any he hl hh) fun σ H Q ⟨ω, env, S, s, h⟩ => ?_
  refine ⟨ω, env, S, s, post_bind h fun x S1 ω1 H1 v l1 s1 r1 h1 => ?_⟩
  refine ⟨ω1, env, S1, s1, post_bind h1 fun a S2 ω2 H2 a' l2 s2 r2 h2 => ?_⟩
  refine ⟨ω2, env, S2, s2, post_bind h2 fun b S3 ω3 H3 b' l3 s3 r3 h3 => ?_⟩
  subst r2
  subst r3
  have rx := (r1.any.le s1.st.mu l2).le s2.st.mu l3
  have lst : ∀ xs, asL S3 x = some xs → gSl S3 x a b = .ok (.lst (cutD xs a b)) S3 → rSlX J.X.K v a b H3 Q := fun xs e1 e2 => by
    obtain ⟨p, vs, rfl, hp, rs⟩ := trep_lst s3 rx e1
    rw [e2] at h3
    exact .inl ⟨p, vs, rfl, SqL.of hp, fun q hq => fin_lst s3 h3 hq (reps_cut rs a b)⟩
  cases x with
  | str z =>
    unfold gSl at h3
    simp only at h3
    split at h3
    · cases trep_str rx
      exact .inr (.inr ⟨_, rfl, lb_line (by assumption), fin_str s3 h3⟩)
    · exact h3.elim
  | tup xs =>
    obtain ⟨p, vs, rfl, hp, np, rs⟩ := trep_tup rx
    have el := rs.length
    refine .inr (.inl ⟨p, vs, rfl, SqT.of hp, fun hw => ?_, fun hw q hq => fin_tup s3 h3 hq (reps_cut rs a b)⟩)
    rw [← el] at hw
    have h3 : PostR J σ env ω3 H3 (fun ω' H' d v => TRep J.G ω' H' env σ true d v) (.ok (.tup (cutD xs a b)) S3) Q := h3
    rw [cut_whole hw] at h3
    exact fin_rep s3 h3 (.tup hp np rs)
  | lst xs => exact lst xs rfl rfl
  | ref n =>
    cases hS : S3[n]? with
    | none => simp only [gSl, asQ, hS] at h3; exact h3.elim
    | some o =>
      cases o with
      | lst xs => exact lst xs (by simp only [asL, hS]) (by simp only [gSl, asQ, hS])
      | dct _ _ => simp only [gSl, asQ, hS] at h3; exact h3.elim
      | ins _ _ _ => simp only [gSl, asQ, hS] at h3; exact h3.elim
  | scr ns =>
    cases trep_nown (fun o e => by cases o <;> cases e) rx with
    | scr h => exact .inl ⟨_, _, rfl, scr_sql h, fun q' hq' => fin_lst s3 h3 hq' (reps_cut (Reps.of_ints ns) a b)⟩
  | non => exact h3.elim
  | bl _ => exact h3.elim
  | int _ => exact h3.elim
  | dct _ _ => exact h3.elim
  | exn _ _ _ => exact h3.elim
/-- a slice of a list as a new list -/
def sSlL (f : SE) (fl fh : SOp) : SL := fun env S => (f env S).bind fun x S1 => (fl env S1).bind fun lo S2 => (fh env S2).bind fun hi S3 => match asL S3 x with
  | some xs => .ok (.lst (cutD xs lo hi)) S3
  | none => .stk
theorem pfl_slice {e : Expr} {lo hi : Option Expr} {f : SE} {fl fh : SOp} {s1 : Bool} {p2 pos : Pos} (he : PF J s1 e f) (hl : PFO J lo fl) (hh : PFO J hi fh) : PFL J (.Subscript e (.Slice lo hi none p2) pos) (sSlL f fl fh) := by
  refine PE.imp (pe_slice sl_list he hl hh) fun σ H Q ⟨ω, env, S, s, h⟩ => ?_
  refine ⟨ω, env, S, s, post_bind0 h fun x S1 ω1 H1 v l1 s1 r1 h1 => ?_⟩
  refine ⟨ω1, env, S1, s1, post_bind1 l1 h1 fun a S2 ω2 H2 a' l2 s2 r2 h2 => ?_⟩
  refine ⟨ω2, env, S2, s2, post_bind1 (l1.trans l2) h2 fun b S3 ω3 H3 b' l3 s3 r3 h3 => ?_⟩
  subst r2
  subst r3
  have rx := (r1.any.le s1.st.mu l2).le s2.st.mu l3
  split at h3
  · rename_i xs e
    obtain ⟨p, vs, rfl, hp, rs⟩ := trep_lst s3 rx e
    exact ⟨p, vs, rfl, SqL.of hp, fun q hq => fin_new s3 ((l1.trans l2).trans l3) h3 hq (reps_cut rs a b)⟩
  · exact h3.elim

/-! ### displays -/
def sTup (f : SA) : SE := fun env S => (f env S).bind fun ds S1 => if LB ds.length then .ok (.tup ds) S1 else .stk
theorem pf_tup {es : List Expr} {f : SA} {k : Nat} {pos : Pos} (h : PFA J true es f) : PF J true (.Tuple es k pos) (sTup f) := by
  refine PE.imp (pe_tup h) fun σ H Q ⟨ω, env, S, s, h⟩ => ?_
  refine ⟨ω, env, S, s, post_bind h fun ds S1 ω1 H1 vs l1 s1 r1 h1 => ?_⟩
  have r := TReps.reps r1
  split at h1
  · exact ⟨by rw [← r.length]; exact lb_line (by assumption), fun p hp => fin_tup s1 h1 hp r⟩
  · exact h1.elim
def sLst (f : SA) : SL := fun env S => (f env S).bind fun ds S1 => if LB ds.length then .ok (.lst ds) S1 else .stk
theorem pfl_lst {es : List Expr} {f : SA} {pos : Pos} (h : PFA J true es f) : PFL J (.List es pos) (sLst f) := by
  refine PE.imp (pe_lst h) fun σ H Q ⟨ω, env, S, s, h⟩ => ?_
  refine ⟨ω, env, S, s, post_bind0 h fun ds S1 ω1 H1 vs l1 s1 r1 h1 => ?_⟩
  have r := TReps.reps r1
  split at h1
  · exact ⟨by rw [← r.length]; exact lb_line (by assumption), fun p hp => fin_new s1 l1 h1 hp r⟩
  · exact h1.elim

/-! ### built-in calls -/
abbrev GC := Sto → List D → R D
def CallD (J : Jx) (r : List V → Hp → VK → Prop) (g : GC) : Prop := ∀ (ω : Wd) (env : En) (S : Sto) (σ : L2.St) (H : Hp) (ds : List D) (vs : List V) (Q : VK), Sim J.G J.anc ω env S σ H → TReps J.G ω H env σ false ds vs →
  PostR J σ env ω H (fun ω' H' d v => TRep J.G ω' H' env σ true d v) (g S ds) Q → r vs H Q
def sB (g : GC) (f : SA) : SE := fun env S => (f env S).bind fun ds S1 => g S1 ds
theorem can_cb {r : List V → Hp → VK → Prop} {g : GC} {f : SA} {st : Bool} (hg : CallD J r g) {σ : L2.St} {H : Hp} {Q : VK} (q : canE J true (sB g f) σ H Q) : tCB r (canA J st f) σ H Q := by
  obtain ⟨ω, env, S, s, h⟩ := q
  exact ⟨ω, env, S, s, post_bind h fun ds S1 ω1 H1 vs l1 s1 r1 h1 => hg ω1 env S1 σ H1 ds vs Q s1 r1.any h1⟩
theorem pf_callB {id : String} {r : List V → Hp → VK → Prop} {g : GC} {x : Str} {e : Expr} {es : List Expr} {f : SA} {st : Bool} {p pos : Pos} (hc : CallR J.X (.builtin id) r) (hgd : CallD J r g) (hm : J.X.mg x = none) (ha : PFA J st (e :: es) f) (hg : Gl J.X x := by rfl) (hv : bootBuiltins x = some (.builtin id) := by decide +kernel)
    (hn : x ≠ "__name__" := by decide) (hdb : (x == ("__debug__" : Str)) = false := by decide) (he : starEach (e :: es) J.X.env = (false, eval e J.X.env) :: starEach es J.X.env := by rfl) (hpl : (backTo pos (starEach es J.X.env)).any (·.1) = false := by rfl) : PF J true (.Call (.Name x p) (e :: es) [] pos) (sB g f) :=
  PE.imp (pe_callB hc hg hm hv ha hn hdb he hpl) fun _ _ _ q => can_cb hgd q
theorem pf_callTy {T : String} {r : List V → Hp → VK → Prop} {g : GC} {x : Str} {e : Expr} {es : List Expr} {f : SA} {st : Bool} {p pos : Pos} (hc : CallR J.X (.type T) r) (hgd : CallD J r g) (hm : J.X.mg x = none) (ha : PFA J st (e :: es) f) (hg : Gl J.X x := by rfl) (hv : bootBuiltins x = some (.type T) := by decide +kernel)
    (hn : x ≠ "__name__" := by decide) (hdb : (x == ("__debug__" : Str)) = false := by decide) (he : starEach (e :: es) J.X.env = (false, eval e J.X.env) :: starEach es J.X.env := by rfl) (hpl : (backTo pos (starEach es J.X.env)).any (·.1) = false := by rfl) : PF J true (.Call (.Name x p) (e :: es) [] pos) (sB g f) :=
  PE.imp (pe_callTy hc hg hm hv ha hn hdb he hpl) fun _ _ _ q => can_cb hgd q
theorem treps1 {G : Gc} {ω : Wd} {H : Hp} {env : En} {σ : L2.St} {st : Bool} {d : D} {vs : List V} (h : TReps G ω H env σ st [d] vs) : ∃ v, vs = [v] ∧ TRep G ω H env σ st d v := by
  cases vs with
  | nil => exact h.elim
  | cons v vs =>
    cases vs with
    | nil => exact ⟨v, rfl, h.1⟩
    | cons _ _ => exact h.2.elim
theorem treps2 {G : Gc} {ω : Wd} {H : Hp} {env : En} {σ : L2.St} {st : Bool} {d e : D} {vs : List V} (h : TReps G ω H env σ st [d, e] vs) : ∃ v u, vs = [v, u] ∧ TRep G ω H env σ st d v ∧ TRep G ω H env σ st e u := by
  cases vs with
  | nil => exact h.elim
  | cons v vs =>
    obtain ⟨u, rfl, r⟩ := treps1 h.2
    exact ⟨v, u, rfl, h.1, r⟩
def gLen : GC := fun S ds => match ds with
  | [.str x] => if LB x.length then .ok (.int x.length) S else .stk
  | [d] => match asQ S d with
    | some xs => .ok (.int xs.length) S
    | none => .stk
  | _ => .stk
theorem cd_len : CallD J (fun xs H Q => ∃ x n, xs = [x] ∧ LenV J.X.K x H n ∧ Q (.int n) H) gLen := by
  intro ω env S σ H ds vs Q s r h
  unfold gLen at h
  split at h
  · obtain ⟨v, rfl, rv⟩ := treps1 r
    cases trep_str rv
    split at h
    · exact ⟨_, _, rfl, ⟨lb_line (by assumption), rfl⟩, fin_int s h⟩
    · exact h.elim
  · obtain ⟨v, rfl, rv⟩ := treps1 r
    split at h
    · rename_i xs e
      obtain ⟨a, vs, rfl, hq, q⟩ := trep_seq s rv e
      have hl := q.length
      rw [hl] at h
      exact ⟨_, vs.length, rfl, hq.elim (fun z => .inl ⟨vs, z, rfl⟩) (fun z => .inr ⟨vs, z, rfl⟩), fin_int s h⟩
    · exact h.elim
  · exact h.elim
theorem pf_len {e : Expr} {f : SA} {st : Bool} {p pos : Pos} (hm : J.X.mg "len" = none) (ha : PFA J st [e] f) (hg : Gl J.X "len" := by rfl) (he : starEach [e] J.X.env = (false, eval e J.X.env) :: starEach [] J.X.env := by rfl) : PF J true (.Call (.Name "len" p) [e] [] pos) (sB gLen f) :=
  pf_callB call_len cd_len hm ha hg boot_len (by decide) (by decide) he (by rfl)
def gAbs : GC := fun S ds => match ds with
  | [.int i] => .ok (.int (if i < 0 then -i else i)) S
  | _ => .stk
theorem cd_abs : CallD J (fun xs H Q => ∃ i, xs = [.int i] ∧ Q (.int (if i < 0 then -i else i)) H) gAbs := by
  intro ω env S σ H ds vs Q s r h
  unfold gAbs at h
  split at h
  · obtain ⟨v, rfl, rv⟩ := treps1 r
    cases trep_int rv
    exact ⟨_, rfl, fin_int s h⟩
  · exact h.elim
def gMin2 : GC := fun S ds => match ds with
  | [.int i, .int j] => .ok (.int (if j < i then j else i)) S
  | _ => .stk
theorem cd_min2 : CallD J (fun xs H Q => ∃ i j, xs = [.int i, .int j] ∧ Q (.int (if j < i then j else i)) H) gMin2 := by
  intro ω env S σ H ds vs Q s r h
  unfold gMin2 at h
  split at h
  · obtain ⟨v, u, rfl, rv, ru⟩ := treps2 r
    cases trep_int rv
    cases trep_int ru
    exact ⟨_, _, rfl, fin_int s h⟩
  · exact h.elim
def gMax2 : GC := fun S ds => match ds with
  | [.int i, .int j] => .ok (.int (if j > i then j else i)) S
  | _ => .stk
theorem cd_max2 : CallD J (fun xs H Q => ∃ i j, xs = [.int i, .int j] ∧ Q (.int (if j > i then j else i)) H) gMax2 := by
  intro ω env S σ H ds vs Q s r h
  unfold gMax2 at h
  split at h
  · obtain ⟨v, u, rfl, rv, ru⟩ := treps2 r
    cases trep_int rv
    cases trep_int ru
    exact ⟨_, _, rfl, fin_int s h⟩
  · exact h.elim
/-- str(n), str(s) -/
def gStr : GC := fun S ds => match ds with
  | [.int i] => if decide (i.natAbs.log2 < 1920) then .ok (.str (toString i)) S else .stk
  | [.str x] => .ok (.str x) S
  | _ => .stk
theorem cd_str : CallD J (fun xs H Q => (∃ i, xs = [.int i] ∧ i.natAbs.log2 < 1920 ∧ Q (.str (toString i)) H) ∨ ∃ a, xs = [.str a] ∧ Q (.str a) H) gStr := by
  intro ω env S σ H ds vs Q s r h
  unfold gStr at h
  split at h
  · obtain ⟨v, rfl, rv⟩ := treps1 r
    cases trep_int rv
    split at h
    · exact .inl ⟨_, rfl, of_decide_eq_true (by assumption), fin_str s h⟩
    · exact h.elim
  · obtain ⟨v, rfl, rv⟩ := treps1 r
    cases trep_str rv
    exact .inr ⟨_, rfl, fin_str s h⟩
  · exact h.elim
theorem call_strA {X : Cx} : CallR X (.type "str") (fun xs H Q => (∃ i, xs = [.int i] ∧ i.natAbs.log2 < 1920 ∧ Q (.str (toString i)) H) ∨ ∃ a, xs = [.str a] ∧ Q (.str a) H) := CallR.or call_str_int SkE.call_str_str
/-- int(n), int(b) -/
def gInt : GC := fun S ds => match ds with
  | [.int i] => .ok (.int i) S
  | [.bl b] => .ok (.int (if b then 1 else 0)) S
  | _ => .stk
theorem cd_int : CallD J (fun xs H Q => (∃ i, xs = [.int i] ∧ Q (.int i) H) ∨ ∃ k, xs = [.bl k] ∧ Q (.int (if k then 1 else 0)) H) gInt := by
  intro ω env S σ H ds vs Q s r h
  unfold gInt at h
  split at h
  · obtain ⟨v, rfl, rv⟩ := treps1 r
    cases trep_int rv
    exact .inl ⟨_, rfl, fin_int s h⟩
  · obtain ⟨v, rfl, rv⟩ := treps1 r
    cases trep_bl rv
    exact .inr ⟨_, rfl, fin_int s h⟩
  · exact h.elim
/-- tuple(x) -/
def gTuple : GC := fun S ds => match ds with
  | [d] => match asQ S d with
    | some xs => .ok (.tup xs) S
    | none => .stk
  | _ => .stk
theorem cd_tuple : CallD J (fun xs H Q => ∃ p ys, xs = [.ref p] ∧ ((SqL J.X.K H p ys ∧ ∀ l, H l = none → Q (.ref l) (upd H l (.tup ys))) ∨ (SqT J.X.K H p ys ∧ Q (.ref p) H))) gTuple := by
  intro ω env S σ H ds vs Q s r h
  unfold gTuple at h
  split at h
  · rename_i d
    obtain ⟨v, rfl, rv⟩ := treps1 r
    split at h
    · rename_i xs e
      cases d with
      | tup ys =>
        cases e
        obtain ⟨a, vs, rfl, ha, na, q⟩ := trep_tup rv
        exact ⟨a, vs, rfl, .inr ⟨SqT.of ha, fin_rep s h (.tup ha na q)⟩⟩
      | lst ys =>
        obtain ⟨a, vs, rfl, ha, q⟩ := trep_lst s rv (xs := xs) e
        exact ⟨a, vs, rfl, .inl ⟨SqL.of ha, fun l hl => fin_tup s h hl q⟩⟩
      | ref n =>
        obtain ⟨a, vs, rfl, ha, q⟩ := trep_lst s rv (xs := xs) e
        exact ⟨a, vs, rfl, .inl ⟨SqL.of ha, fun l hl => fin_tup s h hl q⟩⟩
      | scr ns =>
        cases e
        cases trep_nown (fun o e => by cases o <;> cases e) rv with
        | scr hs => exact ⟨_, _, rfl, .inl ⟨scr_sql hs, fun l hl => fin_tup s h hl (Reps.of_ints ns)⟩⟩
      | _ => cases e
    · exact h.elim
  · exact h.elim
/-- list(x): a new list -/
def sListL (f : SA) : SL := fun env S => (f env S).bind fun ds S1 => match ds with
  | [d] => match asQ S1 d with
    | some xs => .ok (.lst xs) S1
    | none => .stk
  | _ => .stk
theorem pfl_list {e : Expr} {f : SA} {st : Bool} {p pos : Pos} (hm : J.X.mg "list" = none) (ha : PFA J st [e] f) (hg : Gl J.X "list" := by rfl) (hv : bootBuiltins "list" = some (.type "list") := by decide +kernel) (he : starEach [e] J.X.env = (false, eval e J.X.env) :: starEach [] J.X.env := by rfl) : PFL J (.Call (.Name "list" p) [e] [] pos) (sListL f) := by
  refine PE.imp (pe_callTy call_list_of hg hm hv ha (by decide) (by decide) he (by rfl)) fun σ H Q ⟨ω, env, S, s, h⟩ => ?_
  refine ⟨ω, env, S, s, post_bind0 h fun ds S1 ω1 H1 vs l1 s1 r1 h1 => ?_⟩
  split at h1
  · obtain ⟨v, rfl, rv⟩ := treps1 r1
    split at h1
    · rename_i xs e
      obtain ⟨a, vs, rfl, hq, q⟩ := trep_seq s1 rv.any e
      exact ⟨a, vs, rfl, hq, fun l hl => fin_new s1 l1 h1 hl q⟩
    · exact h1.elim
  · exact h1.elim
/-- the ints that data are -/
def asIs : List D → Option (List Int)
  | [] => some []
  | .int i :: ds => (asIs ds).map (i :: ·)
  | _ => none
theorem asIs_map (ns : List Int) : asIs (ns.map D.int) = some ns := by
  induction ns with
  | nil => rfl
  | cons n ns ih => simp [asIs, ih]
theorem asIs_eq : ∀ {ds : List D} {ns : List Int}, asIs ds = some ns → ds = ns.map D.int
  | [], ns, h => by cases h; rfl
  | d :: ds, ns, h => by
    cases d with
    | int i =>
      unfold asIs at h
      cases e : asIs ds with
      | none => rw [e] at h; cases h
      | some ms => rw [e] at h; cases h; rw [asIs_eq e]; rfl
    | _ => cases h
/-- divmod -/
def gDivmod : GC := fun S ds => match ds with
  | [.int i, .int j] => if decide (0 < j) && decide (j < 1073741824) then .ok (.tup [.int (i / j), .int (i % j)]) S else .stk
  | _ => .stk
theorem cd_divmod : CallD J (fun xs H Q => ∃ i j, xs = [.int i, .int j] ∧ CDiv i j ∧ ∀ p, H p = none → Q (.ref p) (upd H p (.tup [.int (i / j), .int (i % j)]))) gDivmod := by
  intro ω env S σ H ds vs Q s r h
  unfold gDivmod at h
  split at h
  · obtain ⟨v, u, rfl, rv, ru⟩ := treps2 r
    cases trep_int rv
    cases trep_int ru
    split at h
    · rename_i hc
      obtain ⟨h1, h2⟩ := Bool.and_eq_true_iff.mp hc
      exact ⟨_, _, rfl, ⟨of_decide_eq_true h1, of_decide_eq_true h2⟩, fun p hp => fin_tup s h hp (.cons .int (.cons .int .nil))⟩
    · exact h.elim
  · exact h.elim
/-! ### repr -/
def gRepr : GC := fun S ds => match ds with
  | [d] => match toP S d with
    | some p => if SeqAt.shaped p && (p.showable && LB p.shown.length) then .ok (.str p.shown) S else .stk
    | none => .stk
  | _ => .stk
theorem call_reprA {X : Cx} (gd : X.A.guards = some []) (hu : X.A.units + 66 < cLine) : CallR X (.builtin "repr") (fun xs H Q => ∃ v d, xs = [v] ∧ Dp X.K H v d ∧ SeqAt.shaped d = true ∧ d.showable = true ∧ d.shown.length ≤ sizeLine ∧ Q (.str d.shown) H) := by
  intro pins s σ H vs us Q I r h
  obtain ⟨v, d, rfl, hd, sh, sw, sz, q⟩ := h
  obtain ⟨u, rfl, rx⟩ := vals1 r
  obtain ⟨as, rd⟩ := Dp.reads I d v u hd rx
  have hdep := SeqAt.depth_of_shaped sh
  have nod : d.hasDict = false := PyData.hasDict_of_canLay d (SeqAt.canLay_of_shaped sh)
  have refs : ∀ a, u = .ref a → wpAny (model X.prog X.w) X.A (call (.builtin "repr") [u]) (EP X pins σ Q) X.xe s := by
    rintro a rfl
    exact repr_of_reads' rd sw (fun z => by rw [nod] at z; cases z) gd (by omega) (fun _ _ e => e) (fun h' t tk hk => ⟨.str _, H, I.kept hk, ⟨_, rfl⟩, q⟩) sz
  cases hd with
  | non => cases rx; exact P.repr_of_none ⟨.str _, H, I.tok _, ⟨_, rfl⟩, q⟩
  | bl b => cases rx; exact P.repr_of_bool ⟨.str _, H, I.tok _, ⟨_, rfl⟩, q⟩
  | int i => obtain ⟨t, rfl⟩ := rx; exact P.repr_of_int (by simpa [PyData.showable] using sw) ⟨.str _, H, I.tok _, ⟨_, rfl⟩, q⟩
  | str x => obtain ⟨t, rfl⟩ := rx; exact P.repr_of_str ⟨.str _, H, I.tok _, ⟨_, rfl⟩, q⟩ sz
  | lst _ _ => cases rx; exact refs _ rfl
  | tup _ _ => cases rx; exact refs _ rfl
theorem cd_repr : CallD J (fun xs H Q => ∃ v d, xs = [v] ∧ Dp J.X.K H v d ∧ SeqAt.shaped d = true ∧ d.showable = true ∧ d.shown.length ≤ sizeLine ∧ Q (.str d.shown) H) gRepr := by
  intro ω env S σ H ds vs Q s r h
  unfold gRepr at h
  split at h
  · obtain ⟨v, rfl, rv⟩ := treps1 r
    split at h
    · rename_i p e
      split at h
      · rename_i hc
        obtain ⟨h1, h2⟩ := Bool.and_eq_true_iff.mp hc
        obtain ⟨h2, h3⟩ := Bool.and_eq_true_iff.mp h2
        exact ⟨v, p, rfl, trep_dp s rv e, h1, h2, lb_line h3, fin_str s h⟩
      · exact h.elim
    · exact h.elim
  · exact h.elim
end
end PF

/-! PF, part h: what is walked, stores, methods. -/
namespace PF
open PySem L2

section
variable {X : Cx} {tg : Expr}
/-- a list or a tuple that is walked -/
def iSeq (K : PySem.W.Frag) (tl : TE) : TI := fun σ H R => tl σ H fun x H1 => ∃ a, x = .ref a ∧ (((∃ xs, SqL K H1 a xs) ∧ R (Itl K a) H1) ∨ ((∃ xs, SqT K H1 a xs) ∧ R (Itt K a) H1))
theorem pi_seq {l : Expr} {tl : TE} (hl : PE X l tl) : PI X tg l (iSeq X.K tl) := by
  refine ⟨fun pins s σ H R I h => thn (hl.run pins s σ H _ I h) fun v s1 q => ?_⟩
  obtain ⟨x, H1, I1, r1, a, e, q⟩ := q
  subst e
  cases r1
  have fresh : ∀ b ∈ [s1.heap.objs.size], FpOk X pins H1 b := fun b hb => by
    cases List.mem_singleton.mp hb
    exact I1.fpOk (Nat.le_refl _) (I1.hok.fresh (Nat.le_refl _))
  rcases q with ⟨⟨xs, hq⟩, q⟩ | ⟨⟨xs, hq⟩, q⟩
  · obtain ⟨its, rv, p, _⟩ := I1.list hq
    exact wpAny_pyIter_list p.isList ⟨_, _, _, _, H1, rfl, I1.kept (t' := s1.toks) fun b o e => Heap.get?_push_of_some _ e, turn_list a _, ⟨_, Heap.get?_push_size _ rfl, rfl, rfl⟩, fresh, q⟩
  · obtain ⟨its, rv, p, _⟩ := I1.tuple hq
    exact wpAny_pyIter_tuple (show s1.heap.IsTuple a its.toArray from p) ⟨_, _, _, _, H1, rfl, I1.kept (t' := s1.toks) fun b o e => Heap.get?_push_of_some _ e, turn_tuple a _, ⟨_, Heap.get?_push_size _ rfl, rfl, rfl⟩, fresh, q⟩
end
section
variable {J : Jx} {tg : Expr}
/-- a value that is a list or a tuple -/
def asV (d : D) : Option (List D) := match d with
  | .lst xs => some xs
  | .tup xs => some xs
  | _ => none
def sIt (f : SE) : SI := fun env S => (f env S).bind fun d S1 => match asV d with
  | some xs => .ok xs S1
  | none => .stk
theorem walkd_lst {G : Gc} {xs : List D} {a : Addr} : WalkD G (Itl G.K a) xs [(.lst xs, .ref a)] := by
  have key : ∀ {ω : Wd} {H : Hp}, Gh G ω H [(D.lst xs, V.ref a)] → ∃ vs, H a = some (.lst vs) ∧ Reps G ω H xs vs := fun {ω H} g => by
    cases g _ (List.mem_singleton.mpr rfl) with
    | lst h n r => exact ⟨_, h, r⟩
  refine ⟨fun i H ω hi g => ?_, fun H ω g => ?_, fun i H ω x H' hi g ud y => ?_⟩
  · obtain ⟨vs, h, r⟩ := key g
    have hl := r.length
    exact ⟨vs, vs[i]'(by omega), SqL.of h, by simp [show i < vs.length by omega]⟩
  · obtain ⟨vs, h, r⟩ := key g
    exact ⟨vs, SqL.of h, by rw [r.length]; exact Nat.le_refl _⟩
  · obtain ⟨vs, h, r⟩ := key g
    obtain ⟨rfl, y⟩ := y
    obtain ⟨d, hd, rd⟩ := r.getV (y vs (SqL.of h))
    exact ⟨.inl rfl, d, hd, rd⟩
theorem walkd_tup {G : Gc} {xs : List D} {a : Addr} : WalkD G (Itt G.K a) xs [(.tup xs, .ref a)] := by
  have key : ∀ {ω : Wd} {H : Hp}, Gh G ω H [(D.tup xs, V.ref a)] → ∃ vs, H a = some (.tup vs) ∧ Reps G ω H xs vs := fun {ω H} g => by
    cases g _ (List.mem_singleton.mpr rfl) with
    | tup h n r => exact ⟨_, h, r⟩
  refine ⟨fun i H ω hi g => ?_, fun H ω g => ?_, fun i H ω x H' hi g ud y => ?_⟩
  · obtain ⟨vs, h, r⟩ := key g
    have hl := r.length
    exact ⟨vs, vs[i]'(by omega), SqT.of h, by simp [show i < vs.length by omega]⟩
  · obtain ⟨vs, h, r⟩ := key g
    exact ⟨vs, SqT.of h, by rw [r.length]; exact Nat.le_refl _⟩
  · obtain ⟨vs, h, r⟩ := key g
    obtain ⟨rfl, y⟩ := y
    obtain ⟨d, hd, rd⟩ := r.getV (y vs (SqT.of h))
    exact ⟨.inl rfl, d, hd, rd⟩
theorem gh1 {G : Gc} {ω : Wd} {H : Hp} {d : D} {v : V} (r : Rep G ω H d v) : Gh G ω H [(d, v)] := fun p hp => by
  cases List.mem_singleton.mp hp
  exact r
theorem pfi_seq {e : Expr} {f : SE} (h : PF J true e f) : PFI J tg e (sIt f) := by
  refine PI.imp (pi_seq h) fun σ H R ⟨ω, env, S, s, q⟩ => ⟨ω, env, S, s, post_bind q fun d S1 ω1 H1 v l1 s1 r1 h1 => ?_⟩
  have r := TRep.rep r1
  cases d with
  | lst xs =>
    have r' := r
    cases r with
    | lst ha n q => exact ⟨_, rfl, .inl ⟨⟨_, SqL.of ha⟩, h1 (_, _) H1 ω1 (Le.refl _ _) s1 ⟨gh1 r', walkd_lst⟩⟩⟩
  | tup xs =>
    have r' := r
    cases r with
    | tup ha n q => exact ⟨_, rfl, .inr ⟨⟨_, SqT.of ha⟩, h1 (_, _) H1 ω1 (Le.refl _ _) s1 ⟨gh1 r', walkd_tup⟩⟩⟩
  | _ => exact h1.elim
def rng (lo : Int) (n : Nat) : List D := (List.range n).map fun (i : Nat) => D.int (lo + i)
theorem walkd_range {G : Gc} {lo : Int} {n : Nat} : WalkD G (Itr lo n) (rng lo n) [] := by
  have hl : (rng lo n).length = n := by simp [rng]
  refine ⟨fun i H ω hi g => by rw [hl] at hi; exact hi, fun H ω g => by rw [hl]; exact Nat.le_refl _, fun i H ω x H' hi g ud y => ?_⟩
  obtain ⟨rfl, rfl⟩ := y
  rw [hl] at hi
  exact ⟨.inl rfl, .int (lo + i), by simp [rng, hi], .int⟩
def sRng1 (f : SA) : SI := fun env S => (f env S).bind fun ds S1 => match ds with
  | [.int j] => if -(2 ^ 62) ≤ j ∧ j < 2 ^ 62 then .ok (rng 0 j.toNat) S1 else .stk
  | _ => .stk
theorem pfi_range1 {a : Expr} {f : SA} {st : Bool} {p pos : Pos} (hm : J.X.mg "range" = none) (ha : PFA J st [a] f) (hg : Gl J.X "range" := by rfl) (hs : starEach [a] J.X.env = [(false, eval a J.X.env)] := by rfl) : PFI J tg (.Call (.Name "range" p) [a] [] pos) (sRng1 f) := by
  refine PI.imp (pi_range1 hg hm ha hs) fun σ H R ⟨ω, env, S, s, q⟩ => ⟨ω, env, S, s, post_bind q fun ds S1 ω1 H1 vs l1 s1 r1 h1 => ?_⟩
  split at h1
  · obtain ⟨v, rfl, rv⟩ := treps1 r1
    cases trep_int rv.any
    split at h1
    · rename_i hc
      exact ⟨_, rfl, hc.1, hc.2, h1 (_, []) H1 ω1 (Le.refl _ _) s1 ⟨(fun p hp => by cases hp), walkd_range⟩⟩
    · exact h1.elim
  · exact h1.elim
def sRng2 (f : SA) : SI := fun env S => (f env S).bind fun ds S1 => match ds with
  | [.int i, .int j] => if (-(2 ^ 62) ≤ i ∧ i < 2 ^ 62) ∧ -(2 ^ 62) ≤ j ∧ j < 2 ^ 62 then .ok (rng i (j - i).toNat) S1 else .stk
  | _ => .stk
theorem pfi_range2 {a b : Expr} {f : SA} {st : Bool} {p pos : Pos} (hm : J.X.mg "range" = none) (ha : PFA J st [a, b] f) (hg : Gl J.X "range" := by rfl) (hs : starEach [a, b] J.X.env = [(false, eval a J.X.env), (false, eval b J.X.env)] := by rfl) (hs2 : starEach [b] J.X.env = [(false, eval b J.X.env)] := by rfl) :
    PFI J tg (.Call (.Name "range" p) [a, b] [] pos) (sRng2 f) := by
  refine PI.imp (pi_range2 hg hm ha hs hs2) fun σ H R ⟨ω, env, S, s, q⟩ => ⟨ω, env, S, s, post_bind q fun ds S1 ω1 H1 vs l1 s1 r1 h1 => ?_⟩
  split at h1
  · obtain ⟨v, u, rfl, rv, ru⟩ := treps2 r1
    cases trep_int rv.any
    cases trep_int ru.any
    split at h1
    · rename_i hc
      exact ⟨_, _, rfl, ⟨hc.1.1, hc.1.2, hc.2.1, hc.2.2⟩, h1 (_, []) H1 ω1 (Le.refl _ _) s1 ⟨(fun p hp => by cases hp), walkd_range⟩⟩
    · exact h1.elim
  · exact h1.elim
mutual
theorem Rep.fresh {G : Gc} {ω : Wd} {H : Hp} {T : Addr} {q : HO} (hT : H T = none) {d : D} {v : V} (r : Rep G ω H d v) : Rep G ω (upd H T q) d v := match r with
  | .non => .non
  | .bl => .bl
  | .int => .int
  | .str => .str
  | .tup h n r => .tup ((upd_ne (ne_of_none h hT)).trans h) n (Reps.fresh hT r)
  | .lst h n r => .lst ((upd_ne (ne_of_none h hT)).trans h) n (Reps.fresh hT r)
  | .scr h => .scr (by
    rcases h with ⟨h | ⟨o, h⟩, n⟩ | h
    · exact .inl ⟨.inl ((upd_ne (ne_of_none h hT)).trans h), n⟩
    · exact .inl ⟨.inr ⟨o, (upd_ne (ne_of_none h hT)).trans h⟩, n⟩
    · exact .inr h)
  | .ref h => .ref h
  | .dct h e n r => .dct ((upd_ne (ne_of_none h hT)).trans h) e n (Reps.fresh hT r)
  | .exn g h n k o e r => .exn g ((upd_ne (ne_of_none h hT)).trans h) n (fun d q => ⟨(upd_ne (ne_of_none (k d q).1 hT)).trans (k d q).1, (k d q).2⟩) o e (Reps.fresh hT r)
theorem Reps.fresh {G : Gc} {ω : Wd} {H : Hp} {T : Addr} {q : HO} (hT : H T = none) {d : List D} {v : List V} (r : Reps G ω H d v) : Reps G ω (upd H T q) d v := match r with
  | .nil => .nil
  | .cons a b => .cons (Rep.fresh hT a) (Reps.fresh hT b)
end
/-- enumerate of a list -/
def enumD (i : Nat) : List D → List D
  | [] => []
  | d :: ds => .tup [.int (i : Int), d] :: enumD (i + 1) ds
theorem enumD_get : ∀ {xs : List D} {k i : Nat} {d : D}, xs[i]? = some d → (enumD k xs)[i]? = some (.tup [.int ((k + i : Nat) : Int), d])
  | [], _, _, _, h => by simp at h
  | x :: xs, k, 0, d, h => by simp at h; subst h; rfl
  | x :: xs, k, i + 1, d, h => by
    have := enumD_get (xs := xs) (k := k + 1) (i := i) (by simpa using h)
    rw [show k + 1 + i = k + (i + 1) by omega] at this
    exact this
theorem enumD_length : ∀ (xs : List D) (k : Nat), (enumD k xs).length = xs.length
  | [], _ => rfl
  | _ :: xs, k => by simp [enumD, enumD_length xs]
def sEnum (f : SA) : SI := fun env S => (f env S).bind fun ds S1 => match ds with
  | [.lst xs] => .ok (enumD 0 xs) S1
  | _ => .stk
theorem walkd_enum {G : Gc} {xs : List D} {a : Addr} : WalkD G (Ite G.K a) (enumD 0 xs) [(.lst xs, .ref a)] := by
  have key : ∀ {ω : Wd} {H : Hp}, Gh G ω H [(D.lst xs, V.ref a)] → ∃ vs, H a = some (.lst vs) ∧ Reps G ω H xs vs := fun {ω H} g => by
    cases g _ (List.mem_singleton.mpr rfl) with
    | lst h n r => exact ⟨_, h, r⟩
  refine ⟨fun i H ω hi g => ?_, fun H ω g => ?_, fun i H ω x H' hi g ud y => ?_⟩
  · obtain ⟨vs, h, r⟩ := key g
    rw [enumD_length, r.length] at hi
    exact walk_enum.goes i H hi (SqL.of h)
  · obtain ⟨vs, h, r⟩ := key g
    rw [enumD_length, r.length]
    exact walk_enum.stops H (SqL.of h)
  · obtain ⟨vs, h, r⟩ := key g
    rw [enumD_length, r.length] at hi
    obtain ⟨T, x1, x2, rfl, hT, rfl, e1, e2⟩ := walk_enum.yields i H x H' hi (SqL.of h) y
    cases e1
    obtain ⟨d, hd, rd⟩ := r.getV e2
    refine ⟨.inr ⟨T, _, hT, rfl⟩, _, enumD_get hd, ?_⟩
    rw [Nat.zero_add]
    have nT : ¬ ω.U T := fun z => ud T z hT
    have r2 : Rep G ω (upd H T (.tup [.int (i : Nat), x2])) d x2 := rd.fresh hT
    exact .tup upd_same nT (.cons .int (.cons r2 .nil))
theorem pfi_enum {e : Expr} {f : SA} {p pos tpos : Pos} {elts : List Expr} {kk : Nat} (hm : J.X.mg "enumerate" = none) (ha : PFA J true [e] f) (hg : Gl J.X "enumerate" := by rfl) (hs : starEach [e] J.X.env = [(false, eval e J.X.env)] := by rfl) :
    PFI J (.Tuple elts kk tpos) (.Call (.Name "enumerate" p) [e] [] pos) (sEnum f) := by
  refine PI.imp (pi_enum hg hm ha hs) fun σ H R ⟨ω, env, S, s, q⟩ => ⟨ω, env, S, s, post_bind q fun ds S1 ω1 H1 vs l1 s1 r1 h1 => ?_⟩
  split at h1
  · obtain ⟨v, rfl, rv⟩ := treps1 r1
    have r := TRep.rep rv
    have r' := r
    cases r with
    | lst ha n q => exact ⟨_, _, rfl, SqL.of ha, h1 (_, _) H1 ω1 (Le.refl _ _) s1 ⟨gh1 r', walkd_enum⟩⟩
  · exact h1.elim
/-! ### x[i] = e, x a list of the store -/
def setS (S : Sto) (n : Nat) (k : Int) (d : D) : Option Sto := match S[n]? with
  | some (.lst xs) => (ixN xs.length k).map fun j => S.set n (.lst (xs.set j d))
  | _ => none
def sSetIx (fe fo fi : SE) : SS := fun env S => (fe env S).bindO env fun d S1 => (fo env S1).bindO env fun o S2 => (fi env S2).bindO env fun i S3 => match o, i with
  | .ref n, .int k => match setS S3 n k d with
    | some S4 => .nx env S4
    | none => .stk
  | _, _ => .stk
theorem Sim.mutS {G : Gc} {anc : Anc} {ω : Wd} {env : En} {S : Sto} {σ : L2.St} {H : Hp} (s : Sim G anc ω env S σ H) {n : Nat} {a : Addr} {o : HO} {x : MO} (hm : ω.m[n]? = some a) (r : RepO G ω (upd H a o) x a) : Le ω H ω (upd H a o) ∧ Sim G anc ω env (S.set n x) σ (upd H a o) := by
  have ma := s.st.mem a (List.mem_of_getElem? hm)
  have l : Le ω H ω (upd H a o) := Le.mut ma (s.st.ud a (s.st.mu a ma))
  exact ⟨l, s.le l (s.st.mut hm r)⟩
theorem Reps.setL {G : Gc} {ω : Wd} {H : Hp} {xs : List D} {vs : List V} {d : D} {v : V} (r : Reps G ω H xs vs) (q : Rep G ω H d v) (j : Nat) : Reps G ω H (xs.set j d) (vs.set j v) := r.set q j
theorem pfs_setIx {e o i : Expr} {fe fo fi : SE} {s2 s3 : Bool} {pos pos' : Pos} (he : PF J true e fe) (ho : PF J s2 o fo) (hi : PF J s3 i fi)
    (ha : ∀ v, assign (.Subscript o i pos) J.X.env v = (do
      let ov ← holding [v] (eval o J.X.env)
      let iv ← holding [v, ov] (eval i J.X.env)
      standAt pos
      holding [v, ov, iv] (setItem ov iv v)
      release [v, ov, iv] []) := by intro _; rfl)
    (hs : swapsWithSole [.Subscript o i pos] e pos'.line J.X.env = pure false := by rfl) (hw : swappedStores [.Subscript o i pos] e J.X.env = pure none := by rfl)
    (h1 : (assignEach [.Subscript o i pos] J.X.env).map (·.2) = [assign (.Subscript o i pos) J.X.env] := by rfl) : PFS J (.Assign [.Subscript o i pos] e pos') (sSetIx fe fo fi) := by
  refine PS.imp (ps_asg he (pg_sub ho hi set_list ha) hs hw h1) fun D σ H ⟨ω, env, S, s, q⟩ => ⟨ω, env, S, s, post_bindO0 q fun d S1 ω1 H1 v l1 s1 r1 h1 => ?_⟩
  refine ⟨ω1, env, S1, s1, post_bindO0 h1 fun x S2 ω2 H2 u l2 s2 r2 h2 => ?_⟩
  refine ⟨ω2, env, S2, s2, post_bindO0 h2 fun y S3 ω3 H3 w l3 s3 r3 h3 => ?_⟩
  split at h3
  · rename_i n k
    obtain ⟨a, rfl, hm⟩ := trep_ref r2
    cases trep_int r3.any
    unfold setS at h3
    cases hS : S3[n]? with
    | none => simp only [hS] at h3; exact h3.elim
    | some m =>
      cases m with
      | lst xs =>
        simp only [hS] at h3
        cases hj : ixN xs.length k with
        | none => simp only [hj, Option.map_none] at h3; exact h3.elim
        | some j =>
          simp only [hj, Option.map_some] at h3
          obtain ⟨b, hb, vs, hv, rs⟩ := s3.st.obj n _ hS
          have hm3 := l3.m_get hm
          rw [hm3] at hb
          cases hb
          have rd : Rep J.G ω3 H3 d v := ((TRep.rep r1).le s1.st.mu l2).le s2.st.mu l3
          have ub := s3.st.mu _ (s3.st.mem _ (List.mem_of_getElem? hm3))
          obtain ⟨_, s4⟩ := s3.mutS (o := .lst (vs.set j v)) (x := .lst (xs.set j d)) hm3 ⟨_, upd_same, (rs.set rd j).mut ub⟩
          exact ⟨a, vs, k, j, rfl, rfl, hv, by rw [← rs.length]; exact hj, h3 σ _ ω3 s4⟩
      | dct _ _ => simp only [hS] at h3; exact h3.elim
      | ins _ _ _ => simp only [hS] at h3; exact h3.elim
  · exact h3.elim
/-! ### methods -/
abbrev GM := Sto → D → List D → R D
def sM (g : GM) (fo : SE) (fa : SA) : SE := fun env S => (fo env S).bind fun x S1 => (fa env S1).bind fun ds S2 => g S2 x ds
/-- x.append(e), x a list of the store -/
def gAppend : GM := fun S x ds => match x, ds with
  | .ref n, [d] => match S[n]? with
    | some (.lst xs) => if xs.length < 1000000 then .ok .non (S.set n (.lst (xs ++ [d]))) else .stk
    | _ => .stk
  | _, _ => .stk
def isLstAt (S : Sto) (d : D) : Bool := (asL S d).isSome
def sAppend (fo : SE) (fa : SA) : SE := fun env S => (fo env S).bind fun x S1 => if isLstAt S1 x then (fa env S1).bind fun ds S2 => gAppend S2 x ds else .stk
theorem pf_append {o e : Expr} {fo : SE} {fa : SA} {s1 : Bool} {apos cpos : Pos} (ho : PF J s1 o fo) (ha : PFA J true [e] fa) (hbase : attributeBase o "append" J.X.env (eval o J.X.env) = eval o J.X.env := by rfl)
    (hfew : ((backTo cpos (starEach [e] J.X.env)).all (fun x => !x.1) && (backToKw cpos (keywordEach [] J.X.env)).all (fun x => x.1.isSome)
      && decide ([e].length + ([] : List Keyword).length + (if ([] : List Keyword).isEmpty then 0 else 1) < 30)) = true := by rfl)
    (hline : (apos.endLine == cpos.line) = true := by rfl) (hs : starEach [e] J.X.env = (false, eval e J.X.env) :: starEach [] J.X.env := by rfl) : PF J true (.Call (.Attribute o "append" apos) [e] [] cpos) (sAppend fo fa) := by
  refine PE.imp (pe_bm PySem.F.plainAttrs_list PySem.F.slot_list_append PySem.F.type_list_append mt_append ho ha hbase hfew hline hs (by rfl)) fun σ H Q ⟨ω, env, S, s, h⟩ => ?_
  refine ⟨ω, env, S, s, post_bind h fun x S1 ω1 H1 v l1 s1 r1 h1 => ?_⟩
  split at h1
  · rename_i hl
    unfold isLstAt at hl
    obtain ⟨xs0, e0⟩ := Option.isSome_iff_exists.mp hl
    obtain ⟨p, vs, rfl, hp, _⟩ := trep_lst s1 r1.any e0
    refine ⟨.inl ⟨rfl, vs, SqL.of hp⟩, ω1, env, S1, s1, post_bind h1 fun ds S2 ω2 H2 us l2 s2 r2 h2 => ?_⟩
    unfold gAppend at h2
    split at h2
    · rename_i n d
      obtain ⟨a, ea, hm⟩ := trep_ref r1
      cases ea
      obtain ⟨u, rfl, ru⟩ := treps1 r2
      have rd := TRep.rep ru
      cases hS : S2[n]? with
      | none => simp only [hS] at h2; exact h2.elim
      | some m =>
        cases m with
        | lst xs =>
          simp only [hS] at h2
          split at h2
          · rename_i hlen
            obtain ⟨b, hb, ws, hw, rs⟩ := s2.st.obj n _ hS
            have hm2 := l2.m_get hm
            rw [hm2] at hb
            cases hb
            have ub := s2.st.mu _ (s2.st.mem _ (List.mem_of_getElem? hm2))
            obtain ⟨l3, s3⟩ := s2.mutS (o := .lst (ws ++ [u])) (x := .lst (xs ++ [d])) hm2 ⟨_, upd_same, (rs.append (.cons rd .nil)).mut ub⟩
            have el := rs.length
            exact ⟨p, ws, u, rfl, rfl, hw, by rw [sizeLine_eq]; omega, h2 .non _ ω2 l3 s3 (Or.inl .non)⟩
          · exact h2.elim
        | dct _ _ => simp only [hS] at h2; exact h2.elim
        | ins _ _ _ => simp only [hS] at h2; exact h2.elim
    · exact h2.elim
  · exact h1.elim
end
/-! ### xs.count(y), flat things -/
section
variable {X : Cx}
theorem count_eqU {x : V} : ∀ {xs : List V} {us : List Value}, Vals xs us → xs.all flatV = true → us.countP (eqU x) = xs.countP fun y => eqV y x
  | _, _, .nil, _ => rfl
  | _, _, .cons r t, h => by
    rw [List.all_cons, Bool.and_eq_true] at h
    rw [List.countP_cons, List.countP_cons, count_eqU t h.2, eqU_of r h.1]
def rCntF (K : PySem.W.Frag) : V → List V → Hp → VK → Prop := fun x xs H Q => ∃ (p : Addr) (ys : List V) (y : V), x = .ref p ∧ xs = [y] ∧ SqL K H p ys ∧ flatV y = true ∧ ys.all flatV = true ∧ Q (.int (ys.countP fun z => eqV z y : Nat)) H
theorem mt_countF : MtR X "list.count" (rCntF X.K) := by
  intro pins s σ H x xs v us Q I rx rxs h
  obtain ⟨p, ys, y, rfl, rfl, hs, fy, fys, q⟩ := h
  cases rx
  obtain ⟨u, rfl, ru⟩ := rxs.one
  obtain ⟨its, rv, ⟨⟨cls, dd, data, sl⟩, n, ho, hc, hdn, hd⟩, hlen⟩ := I.list hs
  simp only at hc hd
  subst hc hd
  refine call_meets PySem.F.slot_list_count ⟨_, ho, rfl⟩ PySem.F.entry_list_count (PySem.F.args_list_count_2 _ _)
    (SeqAt.list_countAt p its.toArray n dd sl u (eqU y)) ⟨ho, fun z hz => mem_eqAt ru fy rv fys z (by simpa using hz), ?_⟩
  refine ⟨.int (ys.countP fun z => eqV z y : Nat), H, I.tok _, ⟨s.toks, ?_⟩, q⟩
  show Value.int ((its.toArray.toList.countP (eqU y) : Nat) : Int) s.toks = _
  rw [show its.toArray.toList = its by simp, count_eqU rv fys]
end
section
variable {J : Jx}
def flatD : D → Bool
  | .non => true
  | .bl _ => true
  | .int _ => true
  | .str _ => true
  | _ => false
def eqF : D → D → Bool
  | .non, .non => true
  | .bl a, .bl b => a == b
  | .bl a, .int b => (if a then 1 else 0) == b
  | .int a, .bl b => a == (if b then 1 else 0)
  | .int a, .int b => a == b
  | .str a, .str b => a == b
  | _, _ => false
theorem flat_rep {G : Gc} {ω : Wd} {H : Hp} {d : D} {v : V} (r : Rep G ω H d v) (f : flatD d = true) : flatV v = true := by cases r <;> first | rfl | exact Bool.noConfusion f
theorem eqF_rep {G : Gc} {ω : Wd} {H : Hp} {d e : D} {v u : V} (r : Rep G ω H d v) (q : Rep G ω H e u) (f : flatD d = true) (g : flatD e = true) : eqV v u = eqF d e := by
  cases r <;> first | (exact Bool.noConfusion f) | (cases q <;> first | (exact Bool.noConfusion g) | rfl)
theorem count_rep {G : Gc} {ω : Wd} {H : Hp} {y : D} {u : V} (q : Rep G ω H y u) (g : flatD y = true) : ∀ {xs : List D} {vs : List V}, Reps G ω H xs vs → xs.all flatD = true → vs.all flatV = true ∧ vs.countP (fun z => eqV z u) = xs.countP fun z => eqF z y
  | [], _, r, _ => by cases r; exact ⟨rfl, rfl⟩
  | x :: xs, _, r, h => by
    cases r with
    | cons a b =>
      rw [List.all_cons, Bool.and_eq_true] at h
      obtain ⟨h1, h2⟩ := count_rep q g b h.2
      rw [List.all_cons, List.countP_cons, List.countP_cons, h2, eqF_rep a q h.1 g, flat_rep a h.1, h1]
      exact ⟨rfl, rfl⟩
def sCount (fo : SE) (fa : SA) : SE := fun env S => (fo env S).bind fun x S1 => if isLstAt S1 x then (fa env S1).bind fun ds S2 => match asL S2 x, ds with
  | some xs, [y] => if flatD y && xs.all flatD then .ok (.int (xs.countP fun z => eqF z y : Nat)) S2 else .stk
  | _, _ => .stk else .stk
theorem pf_count {o e : Expr} {fo : SE} {fa : SA} {s1 : Bool} {apos cpos : Pos} (ho : PF J s1 o fo) (ha : PFA J true [e] fa) (hbase : attributeBase o "count" J.X.env (eval o J.X.env) = eval o J.X.env := by rfl)
    (hfew : ((backTo cpos (starEach [e] J.X.env)).all (fun x => !x.1) && (backToKw cpos (keywordEach [] J.X.env)).all (fun x => x.1.isSome)
      && decide ([e].length + ([] : List Keyword).length + (if ([] : List Keyword).isEmpty then 0 else 1) < 30)) = true := by rfl)
    (hline : (apos.endLine == cpos.line) = true := by rfl) (hs : starEach [e] J.X.env = (false, eval e J.X.env) :: starEach [] J.X.env := by rfl) : PF J true (.Call (.Attribute o "count" apos) [e] [] cpos) (sCount fo fa) := by
  refine PE.imp (pe_bm PySem.F.plainAttrs_list PySem.F.slot_list_count PySem.F.type_list_count mt_countF ho ha hbase hfew hline hs (by rfl)) fun σ H Q ⟨ω, env, S, s, h⟩ => ?_
  refine ⟨ω, env, S, s, post_bind h fun x S1 ω1 H1 v l1 s1 r1 h1 => ?_⟩
  split at h1
  · rename_i hl
    unfold isLstAt at hl
    obtain ⟨xs0, e0⟩ := Option.isSome_iff_exists.mp hl
    obtain ⟨p, vs, rfl, hp, _⟩ := trep_lst s1 r1.any e0
    refine ⟨.inl ⟨rfl, vs, SqL.of hp⟩, ω1, env, S1, s1, post_bind h1 fun ds S2 ω2 H2 us l2 s2 r2 h2 => ?_⟩
    split at h2
    · rename_i xs y ex
      split at h2
      · rename_i hc
        obtain ⟨fy, fx⟩ := Bool.and_eq_true_iff.mp hc
        obtain ⟨u, rfl, ru⟩ := treps1 r2
        obtain ⟨p', ws, e', hw, rs⟩ := trep_lst s2 (r1.any.le s1.st.mu l2) ex
        cases e'
        have rd := TRep.rep ru
        obtain ⟨c1, c2⟩ := count_rep rd fy rs fx
        refine ⟨p, ws, u, rfl, rfl, SqL.of hw, flat_rep rd fy, c1, ?_⟩
        rw [c2]
        exact fin_int s2 h2
      · exact h2.elim
    · exact h2.elim
  · exact h1.elim
/-! ### a, b = x, y for plain local names -/
def sPar (i j : Nat) (fa : SA) : SS := fun env S => (fa env S).bindO env fun ds S1 => match ds with
  | [d, e] => .nx ((env.set i (some (.val d))).set j (some (.val e))) S1
  | _ => .stk
theorem pfs_par (i j : Nat) {x y : Str} {a b : Expr} {fa : SA} {px py pt pos : Pos} {kt k2 : Nat} {pt2 : Pos} (hN : J.X.N.Nodup) (ha : PFA J true [a, b] fa) (hi : J.X.N[i]? = some x := by rfl) (hj : J.X.N[j]? = some y := by rfl) (hij : i ≠ j := by decide)
    (hx : J.X.env.scope.names.lookup x = some .local := by rfl) (hy : J.X.env.scope.names.lookup y = some .local := by rfl) (hc : J.X.calm = true := by rfl)
    (hw : swappedStores [.Tuple [.Name x px, .Name y py] kt pt] (.Tuple [a, b] k2 pt2) J.X.env = pure (some [x, y]) := by rfl)
    (hs : swapsWithSole [.Tuple [.Name x px, .Name y py] kt pt] (.Tuple [a, b] k2 pt2) pos.line J.X.env = pure false := by rfl) :
    PFS J (.Assign [.Tuple [.Name x px, .Name y py] kt pt] (.Tuple [a, b] k2 pt2) pos) (sPar i j fa) := by
  refine PS.imp (ps_par hc hN hi hj hij hx hy ha hw hs) fun D σ H ⟨ω, env, S, s, q⟩ => ⟨ω, env, S, s, post_bindO0 q fun ds S1 ω1 H1 vs l1 s1 r1 h1 => ?_⟩
  split at h1
  · obtain ⟨v, u, rfl, rv, ru⟩ := treps2 r1
    exact ⟨v, u, rfl, h1 _ H1 ω1 ((s1.setV i (TRep.rep rv)).setV j (TRep.rep ru))⟩
  · exact h1.elim
end
end PF

/-! PF, part i: exceptions of the module's classes. -/
namespace PF
open PySem L2 PySem.Spec PyProof.Rows
open Builtin Builtin.ObjectAttr

/-- own classes ahead of the mro t of a built-in class -/
def overT (t : List Value) : List Value → Bool
  | .ref _ :: r => overT t r
  | l => l == t
theorem overT_ind {t : List Value} (P : List Value → Prop) (h0 : P t) (h1 : ∀ c l, P l → P (.ref c :: l)) : ∀ l, overT t l = true → P l := by
  intro l
  induction l with
  | nil => intro e; have e' : (([] : List Value) == t) = true := e; rw [beq_iff_eq] at e'; rw [e']; exact h0
  | cons a r ih =>
    intro e
    cases a with
    | ref c => exact h1 c r (ih e)
    | _ => have e' := beq_iff_eq.mp (show ((_ :: r : List Value) == t) = true from e); rw [e']; exact h0
/-- a base whose instances take stores plainly -/
structure XBase (B newId initId : String) (bmB : List Value) : Prop where
  F : ExcBaseFacts B newId initId bmB
  pass : ∀ self, refuseLoop self "__setattr__" bmB = pure ()
  ob : bmB.contains (.type "object") = true
theorem xbVE : XBase "ValueError" "ValueError.__new__" "ValueError.__init__" [.type "ValueError", .type "Exception", .type "BaseException", .type "object"] := ⟨F.excBase_ValueError, fun s => F.store_ValueError.passes s, by decide +kernel⟩
theorem xbLE : XBase "LookupError" "LookupError.__new__" "LookupError.__init__" [.type "LookupError", .type "Exception", .type "BaseException", .type "object"] := ⟨F.excBase_LookupError, fun s => F.store_LookupError.passes s, by decide +kernel⟩
structure OverOk (bmB bm : List Value) : Prop where
  same : ∀ X : String, bm.contains (.type X) = bmB.contains (.type X)
  pass : ∀ self, refuseLoop self "__setattr__" bm = pure ()
  ne : bm.isEmpty = false
theorem overT_ok {B newId initId : String} {bmB bm : List Value} (x : XBase B newId initId bmB) (h : overT bmB bm = true) : OverOk bmB bm := by
  refine overT_ind (fun l => OverOk bmB l) ⟨fun _ => rfl, x.pass, ?_⟩ (fun c l ih => ⟨fun X => by rw [List.contains_cons, ih.same]; rfl, fun self => by rw [refuseLoop_ref]; exact ih.pass self, rfl⟩) bm h
  cases h' : bmB with
  | nil => have := x.ob; rw [h'] at this; cases this
  | cons _ _ => rfl
/-- what the written part says of an own exception class -/
structure XC (K : PySem.W.Frag) (C : Addr) : Prop where
  cls : ∃ nm q N bs bm sn sub ab col dd k0 k1 k2 k3 k5 B newId initId bmB, XBase B newId initId bmB ∧ K.lookup C = some (excClassObj nm q C N bs bm true sn sub ab col dd k0 k1 k2 k3 k5 newId) ∧ overT bmB bm = true
  sa : PySem.W.findIn K (.ref C) "__setattr__" = some (some (.builtin "object.__setattr__"))
  ga : PySem.W.findIn K (.ref C) "__getattribute__" = some (some (.builtin "BaseException.__getattribute__"))
  gg : PySem.W.findIn K (.ref C) "__getattr__" = some none
  exC : PySem.W.subIn K (.ref C) (.type "BaseException") = some true
  tyC : PySem.W.typeIn K (.ref C) = some (.type "type")
  kC : PySem.W.keepIn K (.ref C) = true
  hd : PySem.W.hasDictIn K C = true
  ca : PySem.W.findIn K (.ref C) "__class__" = some (some (.builtin "object.__class__"))
  cn : PySem.W.specialIn K (.builtin "object.__class__") "__get__" = some (some (.builtin "getset_descriptor.__get__"))
  ct : PySem.W.takesIn K (.builtin "object.__class__") = some true
  cm : PySem.W.mroIn K C (.type "object") = some true

section
variable {prog : Program} {w : World} {A : Around} {E : Value → Shared → Prop} {R : Result → Shared → Prop} {hp : Heap} {g : Array GenState} {d : Drawn} {t : Nat} {os : OsState}
/-- object.__setattr__ of an exception: what is left is the store into its own dict -/
theorem xset_front {K : PySem.W.Frag} {name : Str} {tk : Tok} {v : Value} {x C : Addr} {ox : Obj} {odd : Option Obj} {cd : ClassData}
    (X : K.In hp) (I : PySem.W.InstAt hp x ox C odd) (hcd : PySem.W.clsIn K C = some cd) (ne : cd.mro.isEmpty = false) (hob : cd.mro.contains (.type "object") = true) (hps : ∀ self, refuseLoop self "__setattr__" cd.mro = pure ())
    (ha : PySem.W.findIn K (.ref C) name = some none)
    (h : ∀ (A' : Around) (Q : Fin → Shared → Prop) (E' : Value → Shared → Prop), (∀ s', R (.ok (.ret .none)) s' → Q (.done (.ret .none)) s') → wpAny (model prog w) A' (storeInOwnDict (.ref x) (.ref C) (.str name tk) name v false) Q E' ⟨hp, g, d, t, os⟩) :
    codeAny (model prog w) A (.call (.builtin "object.__setattr__") ⟨[.ref x, .str name tk, v], []⟩) R ⟨hp, g, d, t, os⟩ := by
  have SF := F.store_object
  have sub : PySem.W.Looks (model prog w) hp (isInstance (.ref x) (.type "object")) true := I.type.andThen (PySem.W.looks_mroIn X (by unfold PySem.W.mroIn; rw [hcd, Option.bind_some, if_neg (by rw [ne]; decide), hob]))
  refine codeAny_call_builtin SF.slot.plain SF.entry (@PySem.W.check_slot (model prog w) _ _ ⟨hp, g, d, t, os⟩ "object.__setattr__" "object" "__setattr__" (.ref x) [.str name tk, v] [] _ SF.kind SF.split sub (SF.args (.ref x) (.str name tk) v) ?_)
  rw [PySem.W.osa_eq, refuse_eq]
  refine wpAny_bind (wpAny_bind (I.type.at (wpAny_bind (((PySem.W.looks_clsIn X hcd).andThen .now : PySem.W.Looks (model prog w) hp (mroOf (.ref C)) cd.mro).at ?_))))
  rw [hps]
  refine wpAny_pure (wpAny_bind (I.type.at (wpAny_bind ((PySem.W.looks_findIn X ha).at (wpAny_bind ((PySem.W.Looks.now : PySem.W.Looks (model prog w) hp (storeTaker? none) none).at ?_))))))
  exact h _ _ _ fun s' q => q
theorem xset_new {K : PySem.W.Frag} {name : Str} {tk : Tok} {v : Value} {x C : Addr} {fv : Array Value} {cd : ClassData}
    (X : K.In hp) (hx : hp.get? x = some { cls := .ref C, data := .fields fv }) (hcd : PySem.W.clsIn K C = some cd) (ne : cd.mro.isEmpty = false) (hob : cd.mro.contains (.type "object") = true) (hps : ∀ self, refuseLoop self "__setattr__" cd.mro = pure ()) (hh : cd.hasDict = true)
    (ha : PySem.W.findIn K (.ref C) name = some none)
    (hq : ∀ h' tk' dx, (∀ b o, b ≠ x → hp.get? b = some o → h'.get? b = some o) → hp.objs.size ≤ dx → dx ≠ x → h'.get? x = some { cls := .ref C, dict := some dx, data := .fields fv } →
      h'.Ns1 dx (fun y => if y = name then some v else none) → R (.ok (.ret .none)) ⟨h', g, d, tk', os⟩) :
    codeAny (model prog w) A (.call (.builtin "object.__setattr__") ⟨[.ref x, .str name tk, v], []⟩) R ⟨hp, g, d, t, os⟩ := by
  refine xset_front X (odd := none) ⟨hx, rfl, rfl, trivial⟩ hcd ne hob hps ha fun A' Q E' hQ => ?_
  have hcls : PySem.W.Looks (model prog w) hp (classData C) cd := PySem.W.looks_clsIn X hcd
  have nx : x ≠ hp.objs.size := Nat.ne_of_lt (Heap.lt_size hx)
  obtain ⟨_, _, _, _, _, hd, _, _, _, _, _⟩ := cd
  obtain rfl : hd = true := hh
  unfold storeInOwnDict ownDictForStores
  repeat (first | with_reducible refine HandSPX.store_in_new ?_ ?_ | with_reducible refine wpAny_loadPart_at hx ?_ | with_reducible refine hcls.at ?_ | wp_step)
  · exact ⟨_, #[], _, (Heap.get?_update_ne _ _ _ _ nx.symm).trans (Heap.get?_push_at rfl rfl), rfl, fun e he => absurd he (by simp), fun _ => rfl⟩
  · intro h' tk' hn' hs
    have hx1 : (hp.push { cls := .type "dict", data := .dict #[] }).get? x = some { cls := .ref C, data := .fields fv } := Heap.get?_push_of_some _ hx
    refine hQ _ (hq h' tk' hp.objs.size (fun b o hb ho => ?_) (Nat.le_refl _) nx.symm ((hs.2 x nx).trans (Heap.get?_update_self _ hx1 rfl)) hn')
    exact (hs.2 b (Nat.ne_of_lt (Heap.lt_size ho))).trans ((Heap.get?_update_ne _ _ _ _ hb).trans (Heap.get?_push_of_some _ ho))
theorem xset_old {K : PySem.W.Frag} {name : Str} {tk : Tok} {v : Value} {x C dx : Addr} {fv : Array Value} {cd : ClassData} {m0 : Str → Option Value} {nl : List Str}
    (X : K.In hp) (hx : hp.get? x = some { cls := .ref C, dict := some dx, data := .fields fv }) (hns : hp.Ns1 dx m0) (hw : Within m0 nl) (hz : nl.length ≤ 1000) (hcd : PySem.W.clsIn K C = some cd) (ne : cd.mro.isEmpty = false) (hob : cd.mro.contains (.type "object") = true)
    (hps : ∀ self, refuseLoop self "__setattr__" cd.mro = pure ()) (hh : cd.hasDict = true) (ha : PySem.W.findIn K (.ref C) name = some none)
    (hq : ∀ h' tk', (∀ b o, b ≠ dx → hp.get? b = some o → h'.get? b = some o) → h'.Ns1 dx (fun y => if y = name then some v else m0 y) → R (.ok (.ret .none)) ⟨h', g, d, tk', os⟩) :
    codeAny (model prog w) A (.call (.builtin "object.__setattr__") ⟨[.ref x, .str name tk, v], []⟩) R ⟨hp, g, d, t, os⟩ := by
  obtain ⟨oD, esD, epD, hoD, hdD, _⟩ := hns.count hw
  refine xset_front X (odd := some oD) ⟨hx, rfl, rfl, hoD⟩ hcd ne hob hps ha fun A' Q E' hQ => ?_
  have hcls : PySem.W.Looks (model prog w) hp (classData C) cd := PySem.W.looks_clsIn X hcd
  obtain ⟨_, _, _, _, _, hd, _, _, _, _, _⟩ := cd
  obtain rfl : hd = true := hh
  unfold storeInOwnDict ownDictForStores
  repeat (first | with_reducible refine OEX.store_in_old hns hw hz ?_ | with_reducible refine wpAny_loadPart_at hx ?_ | with_reducible refine hcls.at ?_ | wp_step)
  exact fun h' tk' hn' hs => hQ _ (hq h' tk' (fun b o hb ho => (hs.2 b hb).trans ho) hn')
end

section
variable {X : Cx} {pins : List (Addr × Obj)} {σ : L2.St} {H : Hp} {s : Shared} {a C dx : Addr} {f : Str} {y : V} {u : Value} {fs : List (Str × V)} {Q : Unit → Shared → Prop} {E : Value → Shared → Prop} {A : Around}
theorem XC.data {K : PySem.W.Frag} (T : XC K C) : ∃ cd, PySem.W.clsIn K C = some cd ∧ cd.mro.isEmpty = false ∧ cd.mro.contains (.type "object") = true ∧ (∀ self, refuseLoop self "__setattr__" cd.mro = pure ()) ∧ cd.hasDict = true := by
  obtain ⟨nm, q, N, bs, bm, sn, sub, ab, col, dd, k0, k1, k2, k3, k5, B, newId, initId, bmB, xb, hC, ho⟩ := T.cls
  have k := overT_ok xb ho
  refine ⟨{ name := nm, bases := bs, mro := .ref C :: bm, ns := N, qualname := q, hasDict := true, slotNames := sn, subclasses := sub, abstract := ab, collection := col, hasDel := false }, by unfold PySem.W.clsIn; rw [hC] <;> rfl, rfl, ?_, fun self => ?_, rfl⟩
  · show (Value.ref C :: bm).contains (.type "object") = true
    rw [List.contains_cons, k.same, xb.ob, Bool.or_true]
  · show refuseLoop self "__setattr__" (Value.ref C :: bm) = pure ()
    rw [refuseLoop_ref]
    exact k.pass self
/-- self.f = y, the first store -/
theorem xst_new (T : XC X.K C) (I : Inv X pins σ H s) (e : H a = some (exo a C none)) (hno : PySem.W.findIn X.K (.ref C) f = some none) (ry : RelV y u)
    (h : ∀ dx s', H dx = none → dx ≠ a → Inv X pins σ (upd (upd H dx (exd dx [(f, y)])) a (exo a C (some dx))) s' → Q () s') : wpAny (model X.prog X.w) A (setAttr (.ref a) f u) Q E s := by
  obtain ⟨cd, c1, c2, c3, c4, c5⟩ := T.data
  obtain ⟨t1, ho⟩ := exo_at I.hok e
  obtain ⟨hp, g, d, t, os⟩ := s
  refine PySem.W.set_plain I.kIn (od := none) ⟨ho, rfl, rfl, trivial⟩ T.sa (xset_new I.kIn ho c1 c2 c3 c4 c5 hno fun h' tk' dx k dn dne hx hn => ?_)
  have hnd : H dx = none := I.hok.fresh dn
  have ea : ∀ {b : Addr}, H b = none → b ≠ a := fun {b} n z => by rw [z, e] at n; cases n
  have ed : ∀ {b : Addr} {o : Obj}, hp.get? b = some o → b ≠ dx := fun q => Nat.ne_of_lt (Nat.lt_of_lt_of_le (Heap.lt_size q) dn)
  have hH : ∀ {b : Addr}, b ≠ a → b ≠ dx → (upd (upd H dx (exd dx [(f, y)])) a (exo a C (some dx))) b = H b := fun n1 n2 => by rw [upd_ne n1, upd_ne n2]
  have U : Un X.fs [] H (upd (upd H dx (exd dx [(f, y)])) a (exo a C (some dx))) hp h' := by
    refine ⟨fun b o q n _ _ => k b o (ea n) q, fun b o q n _ _ => ⟨o.slots, k b o (ea n) q⟩, fun b o q n _ => (hH (ea n) (ed q)).trans n, fun b o q _ => ?_, fun b xs q => ?_, fun b o v q => ?_, fun b ps q => ⟨#[], ?_⟩⟩
    · by_cases hb : b = a
      · exact ⟨_, by rw [hb]; exact hx⟩
      · exact ⟨o, k b o hb q⟩
    · rw [hH (at_ne e q exo_tup) (ne_of_none q hnd)]; exact q
    · rw [hH (at_ne e q exo_frz) (ne_of_none q hnd)]; exact q
    · rw [hH (at_ne e q exo_tbl) (ne_of_none q hnd), q]; simp
  refine h dx _ hnd dne (I.un (t' := tk') U fun b o q => ?_)
  by_cases hb : b = a
  · subst hb
    rw [upd_same] at q
    cases q
    exact exo_ok hx
  · rw [upd_ne hb] at q
    by_cases hd : b = dx
    · subst hd
      rw [upd_same] at q
      cases q
      exact exd_ok hn (relO_put (fs := []) ry fun g => True.intro)
    · rw [upd_ne hd] at q
      refine (I.hok b o q).stay (fun c v hc z => k c v ?_ z) (fun c hc => ?_) fun c xs hc => ?_
      · rcases hc with hc | hc
        · rw [hc]; exact hb
        · exact at_ne e hc exo_own
      · rw [hH (at_ne e hc exo_own) (ne_of_none hc hnd)]; exact hc
      · rw [hH (at_ne e hc exo_tup) (ne_of_none hc hnd)]; exact hc
/-- self.f = y, a further one -/
theorem xst_old (T : XC X.K C) (I : Inv X pins σ H s) (e : H a = some (exo a C (some dx))) (ed : H dx = some (exd dx fs)) (hl : fs.length ≤ 900) (hno : PySem.W.findIn X.K (.ref C) f = some none) (ry : RelV y u)
    (h : ∀ s', Inv X pins σ (upd H dx (exd dx ((f, y) :: fs))) s' → Q () s') : wpAny (model X.prog X.w) A (setAttr (.ref a) f u) Q E s := by
  obtain ⟨cd, c1, c2, c3, c4, c5⟩ := T.data
  obtain ⟨t1, ho⟩ := exo_at I.hok e
  obtain ⟨mA, hns, rel⟩ := exd_at I.hok ed
  have hw := within_of rel
  obtain ⟨hp, g, d, t, os⟩ := s
  obtain ⟨oD, _, _, hoD, _, _⟩ := hns.count hw
  refine PySem.W.set_plain I.kIn (od := some oD) ⟨ho, rfl, rfl, hoD⟩ T.sa (xset_old I.kIn ho hns hw (by rw [List.length_map]; omega) c1 c2 c3 c4 c5 hno fun h' tk' k hn => ?_)
  refine h _ (I.write (t' := tk') (x := dx) (e := dx) (o := exd dx ((f, y) :: fs)) (by rw [ed]; exact True.intro) (.inl rfl) k ?_ (exd_ok hn (relO_put ry rel)))
  obtain ⟨o, _, _, e', _⟩ := hn
  exact ⟨o, e'⟩
end

/-! ### __init__: self.p = p for each parameter -/
/-- what __init__ makes of the new exception at a -/
def XInit (C a : Addr) (H : Hp) (fs : List (Str × V)) (Q : VK) : Prop := ∀ dx, H dx = none → dx ≠ a → Q .non (upd (upd H dx (exd dx fs)) a (exo a C (some dx)))
def spI1 (K : PySem.W.Frag) (C : Addr) (f : Str) : Sp := fun vs H Q _ => ∃ (a : Addr) (y : V), vs = [.ref a, y] ∧ H a = some (exo a C none) ∧ XInit C a H [(f, y)] Q
def spI2 (K : PySem.W.Frag) (C : Addr) (f g : Str) : Sp := fun vs H Q _ => ∃ (a : Addr) (y z : V), vs = [.ref a, y, z] ∧ H a = some (exo a C none) ∧ XInit C a H [(g, z), (f, y)] Q
def tSt (K : PySem.W.Frag) (C : Addr) (f : Str) (i : Nat) : TS := fun D σ H => ∃ (a : Addr) (y : V), σ[0]? = some (some (.ref a)) ∧ σ[i]? = some (some y) ∧ XC K C ∧ PySem.W.findIn K (.ref C) f = some none ∧
  ((H a = some (exo a C none) ∧ ∀ dx, H dx = none → dx ≠ a → D.nx σ (upd (upd H dx (exd dx [(f, y)])) a (exo a C (some dx)))) ∨
    ∃ (dx : Addr) (fs : List (Str × V)), H a = some (exo a C (some dx)) ∧ H dx = some (exd dx fs) ∧ fs.length ≤ 900 ∧ D.nx σ (upd H dx (exd dx ((f, y) :: fs))))
theorem ps_st {X : Cx} {C : Addr} {f self p : Str} {i : Nat} {q1 q2 q3 q4 : Pos} (h0 : X.N[0]? = some self) (hi : X.N[i]? = some p) (v0 : Vis X.env.scope self) (vi : Vis X.env.scope p) (d0 : (self == ("__debug__" : Str)) = false) (di : (p == ("__debug__" : Str)) = false)
    (c0 : (self == ("__classdict__" : Str)) = false) (ci : (p == ("__classdict__" : Str)) = false) (hs : swapsWith (.Name p q3) (some (.Attribute (.Name self q1) f q2)) q4.line X.env = pure false := by rfl) :
    PS X (.Assign [.Attribute (.Name self q1) f q2] (.Name p q3) q4) (tSt X.K C f i) := by
  refine ⟨fun pins s σ H D I ⟨a, y, e0, ei, T, hno, h⟩ => ?_⟩
  refine plainObj_wpAny_Assign_Attribute (thn ((pe_var hi vi di ci).run pins s σ H (fun v H1 => v = y ∧ H1 = H) I ⟨y, ei, rfl, rfl⟩) fun v s1 ⟨y', H1, I1, r1, q1⟩ => ?_) hs
  obtain ⟨rfl, rfl⟩ := q1
  refine thn ((pe_var h0 v0 d0 c0).run pins s1 σ H1 (fun v H2 => v = .ref a ∧ H2 = H1) I1 ⟨_, e0, rfl, rfl⟩) fun u s2 ⟨x, H2, I2, r2, q2⟩ => ?_
  obtain ⟨rfl, rfl⟩ := q2
  obtain rfl : u = Value.ref a := r2
  rcases h with ⟨ea, q⟩ | ⟨dx, fs, ea, ed, hl, q⟩
  · exact xst_new T I2 ea hno r1 fun dx s' n ne J => ⟨σ, _, J, q dx n ne⟩
  · exact xst_old T I2 ea ed hl hno r1 fun s' J => ⟨σ, _, J, q⟩
end PF

/-! PF, part i2: making exceptions. -/
namespace PF
open PySem L2 PySem.Spec PyProof.Rows
open Builtin Builtin.ObjectAttr
section
variable {prog : Program} {w : World} {A : Around} {E : Value → Shared → Prop} {R : Result → Shared → Prop} {h : Heap} {g : Array GenState} {d : Drawn} {t : Nat} {os : OsState}
variable {nm q : Str} {C N : Addr} {bs bm bmB : List Value} {hdct : Bool} {sn : List Str} {sub : List Value} {ab : Bool} {col : Option Bool} {dd : Option Addr} {k0 k1 k2 k3 k5 : Option Value} {B newId initId : String}
variable {us : List Value} {kws : List (Str × Value)}
theorem xnew_check (F : ExcBaseFacts B newId initId bmB) (hB : bm.contains (.type B) = true) {Q : Unit → Shared → Prop} (hC : h.get? C = some (excClassObj nm q C N bs bm hdct sn sub ab col dd k0 k1 k2 k3 k5 newId))
    (hq : Q () ⟨h, g, d, t, os⟩) : wpAny (model prog w) A (checkBuiltinCall newId ⟨.ref C :: us, kws⟩) Q E ⟨h, g, d, t, os⟩ := by
  have c1 : (Value.ref C :: bm).contains (.type B) = true := by rw [List.contains_cons, hB, Bool.or_true]
  have c2 := F.noStar
  simp only [checkBuiltinCall, F.newKind, F.newSplit, F.newRow]
  repeat (first | (refine wpAny_isSubtype_exc hC ?_; rw [c1]) | refine wpAny_loadPart_at hC ?_ | refine wpAny_madeBy_exc hC ?_ | refine wpAny_staticBase_exc hC ?_ | simp only [bne_self_eq_false, Bool.false_eq_true, if_false] | wp_step)
  first
    | exact hq
    | (repeat (first | (refine wpAny_isSubtype_exc hC ?_; rw [c1]) | wp_step); exact hq)
theorem xnew_run (F : ExcBaseFacts B newId initId bmB) (hB : bm.contains (.type B) = true) (hAt : bm.contains (.type "AttributeError") = false) (hNm : bm.contains (.type "NameError") = false)
    (hC : h.get? C = some (excClassObj nm q C N bs bm hdct sn sub ab col dd k0 k1 k2 k3 k5 newId)) (hl : us.length ≤ sizeLine)
    (hq : R (.ok (.ret (.ref (h.objs.size + 1)))) ⟨(h.push (PySem.W.kdv_tup us)).push (HandSPX.excO C h.objs.size), g, d, t, os⟩) :
    codeAny (model prog w) A (.builtin newId ⟨.ref C :: us, kws⟩) R ⟨h, g, d, t, os⟩ := by
  have c1 : (Value.ref C :: bm).contains (.type B) = true := by rw [List.contains_cons, hB, Bool.or_true]
  have c2 : (Value.ref C :: bm).contains (.type "AttributeError") = false := by rw [List.contains_cons, hAt]; rfl
  have c3 : (Value.ref C :: bm).contains (.type "NameError") = false := by rw [List.contains_cons, hNm]; rfl
  have e1 := F.ends
  refine codeAny_builtinAt F.entry ?_
  unfold Builtin.«BaseException.__new__»
  refine PySem.wpAt_bind ?_
  show PySem.wpAt _ _ _ (stack >>= _) _ _ _
  refine PySem.wpAt_bind (PySem.wpAt_stack fun p below => PySem.wpAt_of_wpAny ?_)
  wp_walk
  refine PySem.wpAt_of_wpAny ?_
  rw [F.owner]
  repeat (first | with_reducible refine wpAny_madeHere_exc F.canon hC ?_ | with_reducible refine wpAny_loadPart_at hC ?_ | (with_reducible refine wpAny_isSubtype_exc hC ?_; first | rw [c1] | rw [c2] | rw [c3]) | wp_step)
  show R _ _
  rw [Heap.size_push]
  exact hq
theorem xtc_check {Q : Unit → Shared → Prop} (hC : h.get? C = some (excClassObj nm q C N bs bm hdct sn sub ab col dd k0 k1 k2 k3 k5 newId))
    (hq : Q () ⟨h, g, d, t, os⟩) : wpAny (model prog w) A (checkBuiltinCall "type.__call__" ⟨.ref C :: us, kws⟩) Q E ⟨h, g, d, t, os⟩ := by
  have f3 := tc_sub
  have hT : (⟨h, g, d, t, os⟩ : Shared).TypeIs (.ref C) "type" := ⟨_, hC, rfl⟩
  simp only [checkBuiltinCall, tc_kind, tc_split]
  repeat (any_goals (first | assumption | with_reducible refine wpAny_loadPart_at hC ?_ | with_reducible refine wpAny_onRaise ?_ | with_reducible refine wpAny_map ?_ | wp_step))
theorem xtc_run (x : XBase B newId initId bmB) (ov : OverOk bmB bm) {fI : Addr} {Q : PySem.Fin → Shared → Prop} (hC : h.get? C = some (excClassObj nm q C N bs bm hdct sn sub ab col dd k0 k1 k2 k3 k5 newId))
    (hi : PySem.W.Looks (model prog w) h (typeLookup (.ref C) "__init__") (some (.ref fI))) (hb : ∀ self, PySem.W.Looks (model prog w) h (bindSpecial (.ref fI) self) (.ref fI, [self])) (hl : us.length ≤ sizeLine)
    (hq : codeAny (model prog w) A (.call (.ref fI) ⟨.ref (h.objs.size + 1) :: us, kws⟩)
      (fun r s' => match r with | .ok (.ret v) => v = .none ∧ Q (.done (.ret (.ref (h.objs.size + 1)))) s' | .ok _ => False | .error e => E e s')
      ⟨(h.push (PySem.W.kdv_tup us)).push (HandSPX.excO C h.objs.size), g, d, t, os⟩) :
    wpAny (model prog w) A (Builtin.«type.__call__» ⟨.ref C :: us, kws⟩) Q E ⟨h, g, d, t, os⟩ := by
  have b1 : bm.contains (.type B) = true := (ov.same B).trans x.F.hasB
  have b2 : bm.contains (.type "AttributeError") = false := (ov.same _).trans x.F.noAttr
  have b3 : bm.contains (.type "NameError") = false := (ov.same _).trans x.F.noName
  have k : ∀ b o, h.get? b = some o → ((h.push (PySem.W.kdv_tup us)).push (HandSPX.excO C h.objs.size)).get? b = some o := fun b o e => Heap.get?_push_of_some _ (Heap.get?_push_of_some _ e)
  have hC1 := k _ _ hC
  have hg1 : ((h.push (PySem.W.kdv_tup us)).push (HandSPX.excO C h.objs.size)).get? (h.objs.size + 1) = some (HandSPX.excO C h.objs.size) := by heap_get
  have cC : (Value.ref C :: bm).contains (.ref C) = true := by simp
  repeat (first | with_reducible refine wpAny_loadPart_at hC ?_ | with_reducible refine wpAny_madeBy_exc hC ?_ | wp_step)
  refine codeAny_call_builtin_code (Code.quiet_builtin _ x.F.quiet) (xnew_check x.F b1 hC ?_)
  refine xnew_run x.F b1 b2 b3 hC hl ?_
  show wpAny _ _ _ _ _ _
  unfold isInstance
  repeat (first | with_reducible refine wpAny_loadPart_at hg1 ?_ | (with_reducible refine wpAny_isSubtype_exc hC1 ?_; rw [cC]) | wp_step)
  show wpAny _ _ (typeLookup (.ref C) _) _ _ _
  refine (hi.keeps k).at ?_
  refine wpAny_holding (wpAny_bind (((hb (.ref (h.objs.size + 1))).keeps k).at ?_))
  refine wpAny_bind (wpAny_call (codeAny_mono hq fun r s' z => ?_))
  rcases r with e | (v | _ | _ | _) <;> first | exact z | exact z.elim | skip
  obtain ⟨rfl, z⟩ := z
  first
    | exact wpAny_pure (wpAny_pure z)
    | (wp_walk; exact z)
theorem xcall (x : XBase B newId initId bmB) (ov : OverOk bmB bm) {fI : Addr} (hC : h.get? C = some (excClassObj nm q C N bs bm hdct sn sub ab col dd k0 k1 k2 k3 k5 newId))
    (hi : PySem.W.Looks (model prog w) h (typeLookup (.ref C) "__init__") (some (.ref fI))) (hb : ∀ self, PySem.W.Looks (model prog w) h (bindSpecial (.ref fI) self) (.ref fI, [self])) (hl : us.length ≤ sizeLine)
    (hq : codeAny (model prog w) (A.under (.builtin "type.__call__" ⟨.ref C :: us, kws⟩)) (.call (.ref fI) ⟨.ref (h.objs.size + 1) :: us, kws⟩) (PySem.W.InitBack (h.objs.size + 1) R)
      ⟨(h.push (PySem.W.kdv_tup us)).push (HandSPX.excO C h.objs.size), g, d, t, os⟩) :
    codeAny (model prog w) A (.call (.ref C) ⟨us, kws⟩) R ⟨h, g, d, t, os⟩ := by
  have f1 := tc_lookup
  have f2 := tc_bind (.ref C)
  have hTy : (⟨h, g, d, t, os⟩ : Shared).TypeIs (.ref C) "type" := ⟨_, hC, rfl⟩
  refine codeAny_of_tree ?_
  show wpAny _ _ (callAny (.ref C) _) _ _ _
  repeat (any_goals (first | assumption | with_reducible refine wpAny_loadPart_at hC ?_ | wp_step))
  refine ⟨rfl, ?_⟩
  refine codeAny_call_builtin_at (Code.quiet_builtin _ (by decide +kernel)) entry_typeCall (xtc_check hC (xtc_run x ov hC hi hb hl (codeAny_mono hq fun r s' z => ?_)))
  rcases r with e | (v | _ | _ | _) <;> exact z
end
end PF

/-! PF, part i3: making exceptions, as values and to be raised. -/
namespace PF
open PySem L2 PySem.Spec PyProof.Rows
section
variable {X : Cx} {pins : List (Addr × Obj)} {σ : L2.St} {H : Hp} {s : Shared} {C fI : Addr} {k n : Nat} {fd : FuncData} {ps ks : List Str} {sp : Sp} {g : List Value → List Value → List Value} {gV : List V → List V → List V} {fs : List (Str × V)}
/-- a new exception at a with its dict at d, ahead of its first flight -/
def XMade (X : Cx) (pins : List (Addr × Obj)) (σ : L2.St) (H' : Hp) (C : Addr) (od : Option Addr) (a : Addr) (s' : Shared) : Prop :=
  ∃ (G : Heap) (oe : Obj) (vs : Array Value), Inv X pins σ H' { s' with heap := G } ∧ (∀ b o, G.get? b = some o → s'.heap.get? b = some o) ∧ G.get? a = none ∧ s'.heap.get? a = some oe ∧ Zc (.ref C) od oe ∧ oe.data = .fields vs ∧ vs[1]? = some .none ∧ H' a = none
theorem run_mkx {us ws : List Value} {vs zs : List V} {Q : Value → Shared → Prop} (T : XC X.K C) (iC : PySem.W.findIn X.K (.ref C) "__init__" = some (some (.ref fI))) (tI : PySem.W.typeIn X.K (.ref fI) = some (.type "function"))
    (F1 : FnOk X.prog X.w X.K X.mg X.base (L2.CX X.prog X.w) k fI fd ps sp) (hr : Room (k + 1) X.A) (hb : KBn X.K fd ps (n + 1) ks g gV) (I : Inv X pins σ H s) (r : Vals vs us) (rz : Vals zs ws) (l1 : vs.length = n) (l2 : zs.length = ks.length) (hn : n ≤ 1000)
    (hsp : ∀ a Q E, H a = none → XInit C a (upd H a (exo a C none)) fs Q → sp (gV (.ref a :: vs) zs) (upd H a (exo a C none)) Q E)
    (hq : ∀ a d s', H a = none → H d = none → d ≠ a → XMade X pins σ (upd H d (.xd fs)) C (some d) a s' → Q (.ref a) s') : wpAny (model X.prog X.w) X.A (call (.ref C) us (ks.zip ws)) Q X.xe s := by
  obtain ⟨nm, q, N, bs, bm, sn, sub, ab, col, dd, k0, k1, k2, k3, k5, B, newId, initId, bmB, xb, hC, ho⟩ := T.cls
  have ov := overT_ok xb ho
  obtain ⟨hp, gg, dr, tk, os⟩ := s
  have hsz : hp.objs.size ≤ hp.objs.size + 1 := Nat.le_succ _
  have na : H (hp.objs.size + 1) = none := I.hok.fresh hsz
  have kk : ∀ b o, hp.get? b = some o → ((hp.push (PySem.W.kdv_tup us)).push (PySem.HandSPX.excO C hp.objs.size)).get? b = some o := fun b o e => Heap.get?_push_of_some _ (Heap.get?_push_of_some _ e)
  have hget : ((hp.push (PySem.W.kdv_tup us)).push (PySem.HandSPX.excO C hp.objs.size)).get? (hp.objs.size + 1) = some (PySem.HandSPX.excO C hp.objs.size) := by heap_get
  have I2 : Inv X pins σ (upd H (hp.objs.size + 1) (exo (hp.objs.size + 1) C none)) ⟨(hp.push (PySem.W.kdv_tup us)).push (PySem.HandSPX.excO C hp.objs.size), gg, dr, tk, os⟩ :=
    I.laid (t' := tk) (a := hp.objs.size + 1) (o := exo (hp.objs.size + 1) C none) (h' := (hp.push (PySem.W.kdv_tup us)).push (PySem.HandSPX.excO C hp.objs.size)) kk hsz (exo_ok hget)
  have r1 : Vals (V.ref (hp.objs.size + 1) :: vs) (Value.ref (hp.objs.size + 1) :: us) := .cons rfl r
  have n1 : (Value.ref (hp.objs.size + 1) :: us).length = n + 1 := by rw [List.length_cons, ← r.length, l1]
  have hus : us.length ≤ sizeLine := by rw [← r.length, sizeLine_eq]; omega
  refine wpAny_call (xcall xb ov (I.kIn _ _ hC) (PySem.W.looks_findIn I.kIn iC) (fun self => PySem.W.bind_fn I.kIn self tI) hus
    (codeAny_mono (F1.run _ X.stack _ _ ⟨Value.ref (hp.objs.size + 1) :: us, ks.zip ws⟩ (g (Value.ref (hp.objs.size + 1) :: us) ws) _ (fun v H2 => v = .non ∧ ∃ d, H d = none ∧ d ≠ hp.objs.size + 1 ∧ H2 = upd (upd (upd H (hp.objs.size + 1) (exo (hp.objs.size + 1) C none)) d (exd d fs)) (hp.objs.size + 1) (exo (hp.objs.size + 1) C (some d))) (fun _ _ _ => False)
      (hr.make C us (ks.zip ws)) (I2.env0.make C us (ks.zip ws)) (hb.to _ (Value.ref (hp.objs.size + 1) :: us) ws I2.kIn n1 (rz.length.symm.trans l2)) (hb.rel r1 rz)
      (hsp _ _ _ na fun d hd ne => ⟨rfl, d, by rw [upd_ne ne] at hd; exact hd, ne, rfl⟩)) fun res s' hq' => ?_))
  match res, hq' with
  | .error e, hq' =>
    obtain ⟨_, _, _, _, _, _, _, _, _, _, _, _, z⟩ := hq'
    exact z.elim
  | .ok (.ret u), hq' =>
    obtain ⟨v, H2, os2, bare2, un2, hok2, rv, ev, d, hd, ne, e2⟩ := hq'
    subst ev
    obtain ⟨h2, g2, d2, t2, os'⟩ := s'
    have ea : H2 (hp.objs.size + 1) = some (exo (hp.objs.size + 1) C (some d)) := by rw [e2, upd_same]
    have ed : H2 d = some (exd d fs) := by rw [e2, upd_ne ne, upd_same]
    obtain ⟨t0, G, J, kG, ge, hoe, na2⟩ := mk_end0 (d2 := d2) (t2 := t2) I hsz kk un2 hok2 os2 bare2 ea ed hd
    have eH : upd (del H2 (hp.objs.size + 1)) d (.xd fs) = upd H d (.xd fs) := by
      funext b
      by_cases hb : b = d
      · rw [hb, upd_same, upd_same]
      · rw [upd_ne hb, upd_ne hb]
        by_cases hba : b = hp.objs.size + 1
        · rw [hba, del_same, na]
        · rw [del_ne hba, e2, upd_ne hba, upd_ne hb, upd_ne hba]
    rw [eH] at J na2
    exact ⟨rv, hq _ d _ na hd ne ⟨G, _, _, J, kG, ge, hoe, ⟨rfl, rfl⟩, rfl, rfl, na2⟩⟩
  | .ok .next, hq' => exact hq'.elim
  | .ok .brk, hq' => exact hq'.elim
  | .ok .cont, hq' => exact hq'.elim
/-- the same for a class without __init__ -/
theorem run_mkx0 {bmB : List Value} {B newId initId : String} {Q : Value → Shared → Prop} (F : ExcBaseFacts B newId initId bmB) (q : PySem.W.excIn X.K C bmB newId = true) (I : Inv X pins σ H s)
    (hq : ∀ a s', H a = none → XMade X pins σ H C none a s' → Q (.ref a) s') : wpAny (model X.prog X.w) X.A (call (.ref C) []) Q X.xe s := by
  obtain ⟨bm, N, nm, qn, bs, hdct, sn, sub, ab, col, dd, k0, k1, k2, k3, k5, mN, hC, hN, hni, T⟩ := exc_obj I.kIn q
  refine wpAny_call_exc_subT F T hC hN hni (fun h' e hm => ?_) (by rw [sizeLine_eq]; exact Nat.zero_le _)
  obtain ⟨t, he, _, _⟩ := hm.there
  have na := I.hok.gone hm.new
  exact hq e _ na ⟨s.heap, _, _, I, hm.keeps, hm.new, he, ⟨rfl, rfl⟩, rfl, rfl, na⟩
theorem XMade.mkp {H' : Hp} {a : Addr} {od : Option Addr} {s' : Shared} {Q : XK} (m : XMade X pins σ H' C od a s') (r : Raises X (.ref C)) (q : Q (.ref C) od H') : MkP X pins σ Q (.ref a) s' := by
  obtain ⟨G, oe, vs, J, k, ge, he, z, dv, h1, na⟩ := m
  exact ⟨a, oe, vs, _, H', .ref C, od, rfl, J, k, ge, he, z, dv, h1, na, rfl, J.bare, r, q⟩
theorem XMade.held {H' : Hp} {a : Addr} {od : Option Addr} {s' : Shared} (m : XMade X pins σ H' C od a s') : Inv X pins σ (upd H' a (xnO C od a)) s' := by
  obtain ⟨G, oe, vs, J, k, ge, he, z, dv, h1, na⟩ := m
  have K := J.laidN (h' := s'.heap) (a := a) (o := xnO C od a) (t' := s'.toks) k ge na ⟨⟨oe, vs, he, z, dv⟩, ⟨oe, he⟩, fun h1 h2 ⟨o, v, e1, e2, e3⟩ kk => ⟨o, v, kk _ e1, e2, e3⟩⟩
  exact K
end
end PF

/-! PF, part i4: the rules for made exceptions. -/
namespace PF
open PySem L2 PySem.Spec PyProof.Rows
section
variable {J : Jx}
def PostM (J : Jx) (pins : List (Addr × Obj)) (σ : L2.St) (env : En) (ω : Wd) (H : Hp) (r : R D) (Q : Value → Shared → Prop) : Prop := match r with
  | .ok d S' => ∀ C od H' a ω' s', Le ω H ω' H' → Sim J.G J.anc ω' env S' σ H' → RepX J.G ω' H' d (.ref C) od → Raises J.X (.ref C) → XMade J.X pins σ H' C od a s' → Q (.ref a) s'
  | .ex e S' => ∀ cls od H' ω', Le ω H ω' H' → Sim J.G J.anc ω' env S' σ H' → RepX J.G ω' H' e cls od → J.W cls od σ H'
  | .stk => False
/-- e makes an exception -/
def PFM (J : Jx) (e : Expr) (f : SE) : Prop := ∀ (pins : List (Addr × Obj)) (s : Shared) (σ : L2.St) (H : Hp) (ω : Wd) (env : En) (S : Sto) (Q : Value → Shared → Prop), Inv J.X pins σ H s → Sim J.G J.anc ω env S σ H → PostM J pins σ env ω H (f env S) Q →
  wpAny (model J.X.prog J.X.w) J.X.A (eval e J.X.env) Q J.X.xe s
theorem pf_mkv {e : Expr} {f : SE} (h : PFM J e f) : PF J true e f := by
  refine ⟨fun pins s σ H Q I ⟨ω, env, S, sm, q⟩ => h pins s σ H ω env S _ I sm ?_⟩
  cases hf : f env S with
  | ok d S' =>
    rw [hf] at q
    intro C od H' a ω' s' l sm' r _ m
    have na : H' a = none := by
      obtain ⟨_, _, _, _, _, _, _, _, _, _, z⟩ := m
      exact z
    refine ⟨.ref a, _, m.held, rfl, q _ _ ω' (l.trans (Le.new na)) (sm'.new na) (Or.inl ?_)⟩
    have r2 := r.le sm'.st.mu (Le.new (ω := ω') (o := xnO C od a) na)
    obtain ⟨c, ns, xs, vs, C', e1, g, e2, k, o, n, rs⟩ := r2
    cases e2
    subst e1
    exact .exn g upd_same (sm'.nU na) k o n rs
  | ex e S' => rw [hf] at q; exact q
  | stk => rw [hf] at q; exact q
def sRaise (f : SE) : SS := fun env S => match f env S with
  | .ok d S' => .ex d env S'
  | .ex e S' => .ex e env S'
  | .stk => .stk
theorem pfs_raise {e : Expr} {f : SE} {pos : Pos} (h : PFM J e f) (tk : Takes J.X J.W) (hc : J.X.calm = true := by rfl) : PFS J (.Raise (some e) none pos) (sRaise f) := by
  refine PS.imp (ps_raise (t := fun σ H Q => ∃ ω env S, Sim J.G J.anc ω env S σ H ∧ match f env S with
    | .ok d S' => ∀ cls od H' ω', Le ω H ω' H' → Sim J.G J.anc ω' env S' σ H' → RepX J.G ω' H' d cls od → Q cls od H'
    | .ex e S' => ∀ cls od H' ω', Le ω H ω' H' → Sim J.G J.anc ω' env S' σ H' → RepX J.G ω' H' e cls od → J.W cls od σ H'
    | .stk => False) hc tk fun pins s σ H Q I ⟨ω, env, S, sm, q⟩ => h pins s σ H ω env S _ I sm ?_) fun D σ H ⟨ω, env, S, sm, q⟩ => ⟨ω, env, S, sm, ?_⟩
  · cases hf : f env S with
    | ok d S' => rw [hf] at q; exact fun C od H' a ω' s' l sm' r hr m => m.mkp hr (q _ _ _ _ l sm' r)
    | ex e S' => rw [hf] at q; exact q
    | stk => rw [hf] at q; exact q
  · unfold sRaise at q
    cases hf : f env S with
    | ok d S' => rw [hf] at q; exact fun cls od H' ω' l sm' r => q cls od σ H' ω' sm' r
    | ex e S' => rw [hf] at q; exact fun cls od H' ω' l sm' r => q cls od σ H' ω' sm' r
    | stk => rw [hf] at q; exact q
/-- an own exception class with its own __init__, called in one shape -/
structure XDef (P : Program) (w : World) (K : PySem.W.Frag) (mg : Str → Option Value) (base : Heap) (c : Str) (k n : Nat) (ks ns : List Str) (gD : List D → List D → List D) : Prop where
  ex : ∃ (C fI : Addr) (fd : FuncData) (ps : List Str) (sp : Sp) (g : List Value → List Value → List Value) (gV gW : List V → List V → List V), XC K C ∧ mg c = some (.ref C) ∧
    PySem.W.findIn K (.ref C) "__init__" = some (some (.ref fI)) ∧ PySem.W.typeIn K (.ref fI) = some (.type "function") ∧ FnOk P w K mg base (L2.CX P w) k fI fd ps sp ∧ KBn K fd ps (n + 1) ks g gV ∧ n ≤ 1000 ∧
    (∀ a (vs zs : List V) H Q E, vs.length = n → zs.length = ks.length → H a = none → XInit C a (upd H a (exo a C none)) (ns.zip (gW vs zs)) Q → sp (gV (.ref a :: vs) zs) (upd H a (exo a C none)) Q E) ∧
    (∀ vs zs : List V, vs.length = n → zs.length = ks.length → ns.length = (gW vs zs).length) ∧
    ∀ (ω : Wd) (H : Hp) (ds : List D) (vs : List V) (zs : List D) (ws : List V), Reps ⟨K, mg⟩ ω H ds vs → Reps ⟨K, mg⟩ ω H zs ws → Reps ⟨K, mg⟩ ω H (gD ds zs) (gW vs ws)
def sMk (c : Str) (n m : Nat) (ns : List Str) (gD : List D → List D → List D) (fa fk : SA) : SE := fun env S => (fa env S).bind fun ds S1 => (fk env S1).bind fun zs S2 => if ds.length = n ∧ zs.length = m then .ok (.exn c ns (gD ds zs)) S2 else .stk
theorem XC.raises {X : Cx} {C : Addr} (T : XC X.K C) : Raises X (.ref C) := raises_own T.exC T.tyC
/-- behind the arguments -/
theorem mk_tail {c : Str} {k n : Nat} {ks ns : List Str} {gD : List D → List D → List D} (O : XDef J.X.prog J.X.w J.X.K J.X.mg J.X.base c k n ks ns gD) (hr : Room (k + 1) J.X.A) {pins : List (Addr × Obj)} {s : Shared} {σ : L2.St} {H : Hp} {ω0 ω : Wd} {H0 : Hp} {env : En} {S : Sto} {Q : Value → Shared → Prop}
    {ds zs : List D} {vs ws : List V} {us xs : List Value} (I : Inv J.X pins σ H s) (l0 : Le ω0 H0 ω H) (sm : Sim J.G J.anc ω env S σ H) (r : Vals vs us) (rz : Vals ws xs) (rd : Reps J.G ω H ds vs) (re : Reps J.G ω H zs ws)
    (q : PostM J pins σ env ω0 H0 (if ds.length = n ∧ zs.length = ks.length then .ok (.exn c ns (gD ds zs)) S else .stk) Q) : ∃ C : Addr, J.X.mg c = some (.ref C) ∧ PySem.W.keepIn J.X.K (.ref C) = true ∧ wpAny (model J.X.prog J.X.w) J.X.A (call (.ref C) us (ks.zip xs)) Q J.X.xe s := by
  obtain ⟨C, fI, fd, ps, sp, g, gV, gW, T, mg, iC, tI, F1, hb, hn, hsp, hlen, hrep⟩ := O.ex
  refine ⟨C, mg, T.kC, ?_⟩
  by_cases hc : ds.length = n ∧ zs.length = ks.length
  · rw [if_pos hc] at q
    have e1 : vs.length = n := rd.length.symm.trans hc.1
    have e2 : ws.length = ks.length := re.length.symm.trans hc.2
    refine run_mkx T iC tI F1 hr hb I r rz e1 e2 hn (fs := ns.zip (gW vs ws)) (fun a Q' E' na x => hsp a vs ws H Q' E' e1 e2 na x) fun a d s' na nd ne m => ?_
    have l1 : Le ω H ω (upd H d (.xd (ns.zip (gW vs ws)))) := Le.new nd
    have nU := sm.nU nd
    refine q C (some d) _ a ω s' (l0.trans l1) (sm.new nd) ⟨c, ns, _, gW vs ws, C, rfl, mg, rfl, fun d' e => ?_, (fun z => nomatch z), hlen vs ws e1 e2, (hrep ω H ds vs zs ws rd re).le sm.st.mu l1⟩ T.raises m
    cases e
    exact ⟨upd_same, nU⟩
  · rw [if_neg hc] at q
    exact q.elim
theorem post_m {pins : List (Addr × Obj)} {σ : L2.St} {env : En} {ω0 ω : Wd} {H0 H : Hp} {α β : Type} {R1 : Wd → Hp → α → β → Prop} {r : R α} {k : α → Sto → R D} {Q : Value → Shared → Prop} {K : β → Hp → Prop} (l0 : Le ω0 H0 ω H)
    (h : PostM J pins σ env ω0 H0 (r.bind k) Q) (hk : ∀ a S1 ω1 H1 b, Le ω H ω1 H1 → Sim J.G J.anc ω1 env S1 σ H1 → R1 ω1 H1 a b → PostM J pins σ env ω0 H0 (k a S1) Q → K b H1) : PostR J σ env ω H R1 r K := by
  cases r with
  | ok a S' => exact fun b H' ω' l s q => hk a S' ω' H' b l s q h
  | ex e S' => exact fun c o H' ω' l => h c o H' ω' (l0.trans l)
  | stk => exact h
theorem pfm_call {c : Str} {k n : Nat} {ns : List Str} {gD : List D → List D → List D} {e : Expr} {es : List Expr} {fa : SA} {p pos : Pos} (O : XDef J.X.prog J.X.w J.X.K J.X.mg J.X.base c k n [] ns gD) (hr : Room (k + 1) J.X.A) (ha : PFA J true (e :: es) fa) (hg : Gl J.X c := by rfl)
    (hdb : (c == ("__debug__" : Str)) = false := by decide) (he : starEach (e :: es) J.X.env = (false, eval e J.X.env) :: starEach es J.X.env := by rfl) (hpl : (backTo pos (starEach es J.X.env)).any (·.1) = false := by rfl) :
    PFM J (.Call (.Name c p) (e :: es) [] pos) (sMk c n 0 ns gD fa sNil) := by
  intro pins s σ H ω env S Q I sm q
  obtain ⟨C, fI, _, _, _, _, _, _, T, mg, _⟩ := id O.ex
  refine wpAny_Call_Name_kw (ld_glob I hg mg ?_ hdb)
  refine PySem.W.callWith_K (h₀ := J.X.base) I.ok.mod.kin T.kC (thn (ha.run pos pins s σ H (fun vs H1 => ∃ ω1 S1 ds, Le ω H ω1 H1 ∧ Sim J.G J.anc ω1 env S1 σ H1 ∧ TReps J.G ω1 H1 env σ true ds vs ∧ PostM J pins σ env ω H (if ds.length = n ∧ ([] : List D).length = 0 then .ok (.exn c ns (gD ds [])) S1 else .stk) Q) I ⟨ω, env, S, sm, post_m (Le.refl _ _) q fun ds S1 ω1 H1 vs l1 s1 r1 q1 => ⟨ω1, S1, ds, l1, s1, r1, q1⟩⟩)
    fun us s1 ⟨vs, H1, I1, r, ω1, S1, ds, l1, sm1, rd, q1⟩ => ⟨I1.kIn, ?_⟩) he hpl
  obtain ⟨C', mg', _, z⟩ := mk_tail O hr I1 l1 sm1 r (.nil : Vals [] []) (TReps.reps rd) (.nil : Reps J.G ω1 H1 [] []) q1
  rw [mg] at mg'
  cases mg'
  exact z
theorem pfm_callK {c : Str} {k : Nat} {ks ns : List Str} {gD : List D → List D → List D} {kws : List Keyword} {fk : SA} {p pos : Pos} (O : XDef J.X.prog J.X.w J.X.K J.X.mg J.X.base c k 0 ks ns gD) (hr : Room (k + 1) J.X.A) (hkw : PFK J kws fk) (hg : Gl J.X c := by rfl)
    (hall : (backToKw pos (keywordEach kws J.X.env)).all (·.1.isSome) = true := by rfl) (hks : (backToKw pos (keywordEach kws J.X.env)).filterMap (·.1) = ks := by rfl) (hdb : (c == ("__debug__" : Str)) = false := by decide)
    (hpl : ((backTo pos (starEach [] J.X.env)).any (·.1) || (backToKw pos (keywordEach kws J.X.env)).any (·.1.isNone)) = false := by rfl) :
    PFM J (.Call (.Name c p) [] kws pos) (sMk c 0 ks.length ns gD sNil fk) := by
  intro pins s σ H ω env S Q I sm q
  obtain ⟨C, fI, _, _, _, _, _, _, T, mg, _⟩ := id O.ex
  refine wpAny_Call_Name_kw (ld_glob I hg mg ?_ hdb)
  refine PySem.W.callWith_KW0 (h₀ := J.X.base) I.ok.mod.kin T.kC hall ?_ hpl
  have q' : PostM J pins σ env ω H ((fk env S).bind fun zs S2 => if ([] : List D).length = 0 ∧ zs.length = ks.length then .ok (.exn c ns (gD [] zs)) S2 else .stk) Q := q
  refine thn (hkw.run pos pins s σ H (fun vs H1 => ∃ ω1 S1 ds, Le ω H ω1 H1 ∧ Sim J.G J.anc ω1 env S1 σ H1 ∧ TReps J.G ω1 H1 env σ true ds vs ∧ PostM J pins σ env ω H (if ([] : List D).length = 0 ∧ ds.length = ks.length then .ok (.exn c ns (gD [] ds)) S1 else .stk) Q) I ⟨ω, env, S, sm, post_m (Le.refl _ _) q' fun ds S1 ω1 H1 vs l1 s1 r1 q1 => ⟨ω1, S1, ds, l1, s1, r1, q1⟩⟩)
    fun ws s2 ⟨zs, H2, I2, rz, ω1, S1, ds, l1, sm1, rd, q1⟩ => ⟨I2.kIn, ?_⟩
  rw [hks]
  obtain ⟨C', mg', _, z⟩ := mk_tail O hr I2 l1 sm1 (.nil : Vals [] []) rz (.nil : Reps J.G ω1 H2 [] []) (TReps.reps rd) q1
  rw [mg] at mg'
  cases mg'
  exact z
/-- a class without own __init__ -/
structure XDef0 (K : PySem.W.Frag) (mg : Str → Option Value) (c : Str) : Prop where
  ex : ∃ (C : Addr) (bmB : List Value) (B newId initId : String), XC K C ∧ mg c = some (.ref C) ∧ ExcBaseFacts B newId initId bmB ∧ PySem.W.excIn K C bmB newId = true
def sMk0 (c : Str) : SE := fun _ S => .ok (.exn c [] []) S
theorem pfm_call0 {c : Str} {p pos : Pos} (O : XDef0 J.X.K J.X.mg c) (hg : Gl J.X c := by rfl) (hdb : (c == ("__debug__" : Str)) = false := by decide) : PFM J (.Call (.Name c p) [] [] pos) (sMk0 c) := by
  intro pins s σ H ω env S Q I sm q
  obtain ⟨C, bmB, B, newId, initId, T, mg, F, qx⟩ := O.ex
  refine wpAny_Call_Name_kw (ld_glob I hg mg ?_ hdb)
  refine PySem.W.callWith_K0 I.kIn T.kC (run_mkx0 F qx I fun a s' na m => ?_)
  exact q C none H a ω s' (Le.refl _ _) sm ⟨c, [], [], [], C, rfl, mg, rfl, (fun d z => nomatch z), (fun _ => rfl), rfl, .nil⟩ T.raises m
end
end PF

/-! PF, part j: the shapes of calls. -/
namespace PF
open PySem L2 PySem.Spec PyProof.Rows
def pick {α : Type} (ix : List Nat) (l : List α) : List α := ix.filterMap fun i => l[i]?
theorem pick_cons {α : Type} {i : Nat} {ix : List Nat} {l : List α} {a : α} (h : l[i]? = some a) : pick (i :: ix) l = a :: pick ix l := by unfold pick; rw [List.filterMap_cons, h]
theorem pick_none {α : Type} {i : Nat} {ix : List Nat} {l : List α} (h : l[i]? = none) : pick (i :: ix) l = pick ix l := by unfold pick; rw [List.filterMap_cons, h]
theorem pick_vals {vs : List V} {us : List Value} (r : Vals vs us) : ∀ ix : List Nat, Vals (pick ix vs) (pick ix us)
  | [] => .nil
  | i :: ix => by
    cases h : vs[i]? with
    | none => rw [pick_none h, pick_none (Vals.none_of r h)]; exact pick_vals r ix
    | some v =>
      obtain ⟨u, e, q⟩ := Vals.get r h
      rw [pick_cons h, pick_cons e]
      exact .cons q (pick_vals r ix)
theorem pick_reps {G : Gc} {ω : Wd} {H : Hp} {ds : List D} {vs : List V} (r : Reps G ω H ds vs) : ∀ ix : List Nat, Reps G ω H (pick ix ds) (pick ix vs)
  | [] => .nil
  | i :: ix => by
    cases h : ds[i]? with
    | none =>
      have h2 : vs[i]? = none := by rw [List.getElem?_eq_none_iff] at h ⊢; rw [← r.length]; exact h
      rw [pick_none h, pick_none h2]; exact pick_reps r ix
    | some v =>
      obtain ⟨u, e, q⟩ := r.get h
      rw [pick_cons h, pick_cons e]
      exact .cons q (pick_reps r ix)
theorem pick_len {α : Type} {l : List α} : ∀ {ix : List Nat}, (∀ i ∈ ix, i < l.length) → (pick ix l).length = ix.length
  | [], _ => rfl
  | i :: ix, h => by
    rw [pick_cons (List.getElem?_eq_getElem (h i (List.mem_cons_self ..))), List.length_cons, List.length_cons, pick_len fun j hj => h j (List.mem_cons_of_mem _ hj)]
/-- a def of the module, called with n values and the keywords ks -/
structure CallOk (P : Program) (w : World) (K : PySem.W.Frag) (mg : Str → Option Value) (base : Heap) (x : Str) (k n : Nat) (ks : List Str) (gD : List D → List D → List D) (F : FD) : Prop where
  ex : ∃ (f : Addr) (fd : FuncData) (ps : List Str) (g : List Value → List Value → List Value) (gV : List V → List V → List V), Fg P w K mg base k f fd ps (spF ⟨K, mg⟩ ps.length F) ∧ mg x = some (.ref f) ∧ PySem.W.keepIn K (.ref f) = true ∧ KBn K fd ps n ks g gV ∧
    (∀ vs zs : List V, vs.length = n → zs.length = ks.length → (gV vs zs).length = ps.length) ∧ ∀ (ω : Wd) (H : Hp) (ds : List D) (vs : List V) (zs : List D) (ws : List V), Reps ⟨K, mg⟩ ω H ds vs → Reps ⟨K, mg⟩ ω H zs ws → Reps ⟨K, mg⟩ ω H (gD ds zs) (gV vs ws)
/-- plain constants, as defaults -/
inductive Cst : D → V → Prop
  | int (i : Int) : Cst (.int i) (.int i)
  | non : Cst .non .non
  | bl (b : Bool) : Cst (.bl b) (.bl b)
  | str (x : Str) : Cst (.str x) (.str x)
inductive Csts : List D → List V → Prop
  | nil : Csts [] []
  | cons {d : D} {v : V} {ds : List D} {vs : List V} : Cst d v → Csts ds vs → Csts (d :: ds) (v :: vs)
theorem Csts.reps {G : Gc} {ω : Wd} {H : Hp} : ∀ {ds : List D} {vs : List V}, Csts ds vs → Reps G ω H ds vs
  | _, _, .nil => .nil
  | _, _, .cons c r => .cons (by cases c; exact .int; exact .non; exact .bl; exact .str) r.reps
def gdP (ix : List Nat) (dv : List D) : List D → List D → List D := fun ds zs => pick ix (ds ++ zs ++ dv)
section
variable {P : Program} {w : World} {K : PySem.W.Frag} {mg : Str → Option Value} {base : Heap} {x qual : Str} {params : Arguments} {body : List Stmt} {scope : Scope} {dvs : List V} {kws : List (Str × V)} {f : Addr} {fd : FuncData} {ps : List Str} {k : Nat} {F : FD}
theorem shape_rp {ix : List Nat} {dv : List D} {dw : List V} (c : Csts dv dw) (ω : Wd) (H : Hp) (ds : List D) (vs : List V) (zs : List D) (ws : List V) (r : Reps ⟨K, mg⟩ ω H ds vs) (q : Reps ⟨K, mg⟩ ω H zs ws) : Reps ⟨K, mg⟩ ω H (gdP ix dv ds zs) (pick ix (vs ++ ws ++ dw)) :=
  pick_reps ((r.append q).append c.reps) ix
theorem shape_ln {ix : List Nat} {n : Nat} {ks : List Str} {dw : List V} (hi : (ix.all fun i => decide (i < n + ks.length + dw.length)) = true) (hp : ix.length = ps.length) (vs zs : List V) (h1 : vs.length = n) (h2 : zs.length = ks.length) : (pick ix (vs ++ zs ++ dw)).length = ps.length := by
  rw [pick_len fun i h => by
    have := List.all_eq_true.mp hi i h
    rw [List.length_append, List.length_append, h1, h2]
    exact of_decide_eq_true this]
  exact hp
/-- nothing is left to the defaults -/
theorem call_all (n : Nat) (ks : List Str) (ix : List Nat) (O : Fg P w K mg base k f fd ps (spF ⟨K, mg⟩ ps.length F)) (hm : mg x = some (.ref f)) (Fd : FunD K x qual params body scope [] kws f fd)
    (h : ∀ (kV doc pm : Value) (an : Option Addr) (cdv ct : Value) (us ws : List Value), us.length = n → ws.length = ks.length → bindArgs (PySem.W.fnOf x qual params body scope .none kV doc pm an cdv ct) ⟨us, ks.zip ws⟩ = pure (ps.zip (pick ix (us ++ ws))))
    (hi : (ix.all fun i => decide (i < n + ks.length + 0)) = true := by decide) (hp : ix.length = ps.length := by rfl) : CallOk P w K mg base x k n ks (gdP ix []) F := by
  refine ⟨f, fd, ps, fun us ws => pick ix (us ++ ws), fun vs zs => pick ix (vs ++ zs ++ []), O, hm, Fd.kp, ⟨fun s us ws X l1 l2 => ?_, fun r1 r2 => ?_⟩, shape_ln hi hp, shape_rp .nil⟩
  · obtain ⟨oc, od, dV, kV, doc, pm, an, cdv, ct, osl, rfl, _, _, hD, _⟩ := Fd.ex
    rcases hD with ⟨_, rfl⟩ | ⟨e, _⟩
    · exact .of_eq (h kV doc pm an cdv ct us ws l1 l2)
    · exact absurd rfl e
  · rw [List.append_nil]; exact pick_vals (r1.append r2) ix
/-- the keyword-only parameters ms are left to their defaults -/
theorem call_kw (n : Nat) (ks : List Str) (ix : List Nat) (ms : List (Str × V)) (dv : List D) (O : Fg P w K mg base k f fd ps (spF ⟨K, mg⟩ ps.length F)) (hm : mg x = some (.ref f)) (Fd : FunD K x qual params body scope [] kws f fd) (hk : kws ≠ []) (hms : ∀ q ∈ ms, q ∈ kws) (c : Csts dv (ms.map (·.2)))
    (h : ∀ (D : Addr) (doc pm : Value) (an : Option Addr) (cdv ct : Value) (us mv ws : List Value), us.length = n → mv.length = ms.length → ws.length = ks.length →
      KwChain D ((ms.map (·.1)).zip mv) (bindArgs (PySem.W.fnOf x qual params body scope .none (.ref D) doc pm an cdv ct) ⟨us, ks.zip ws⟩) (ps.zip (pick ix (us ++ ws ++ mv))))
    (hi : (ix.all fun i => decide (i < n + ks.length + (ms.map (·.2)).length)) = true := by decide) (hp : ix.length = ps.length := by rfl) : CallOk P w K mg base x k n ks (gdP ix dv) F := by
  obtain ⟨mv, hb⟩ := Fd.kbinds0 (ps := ps) n ks ms (fun {α} vs mz zs => pick ix (vs ++ zs ++ mz)) hk hms (fun r1 r2 r3 => pick_vals ((r1.append r3).append r2) ix) h
  exact ⟨f, fd, ps, _, _, O, hm, Fd.kp, hb, shape_ln hi hp, shape_rp c⟩
/-- the positional defaults -/
theorem call_dfl (n : Nat) (ks : List Str) (ix : List Nat) (dv : List D) (O : Fg P w K mg base k f fd ps (spF ⟨K, mg⟩ ps.length F)) (hm : mg x = some (.ref f)) (Fd : FunD K x qual params body scope dvs kws f fd) (hd : dvs ≠ []) (c : Csts dv dvs)
    (h : ∀ (T : Addr) (kV doc pm : Value) (an : Option Addr) (cdv ct : Value) (us its ws : List Value), us.length = n → its.length = dvs.length → ws.length = ks.length →
      ∃ k, bindArgs (PySem.W.fnOf x qual params body scope (.ref T) kV doc pm an cdv ct) ⟨us, ks.zip ws⟩ = seqItems? (.ref T) >>= k ∧ k (some its.toArray) = pure (ps.zip (pick ix (us ++ ws ++ its))))
    (hi : (ix.all fun i => decide (i < n + ks.length + dvs.length)) = true := by decide) (hp : ix.length = ps.length := by rfl) : CallOk P w K mg base x k n ks (gdP ix dv) F := by
  obtain ⟨mv, hb⟩ := Fd.kbindsD (ps := ps) n ks (fun {α} vs mz zs => pick ix (vs ++ zs ++ mz)) hd (fun r1 r2 r3 => pick_vals ((r1.append r3).append r2) ix) h
  exact ⟨f, fd, ps, _, _, O, hm, Fd.kp, hb, shape_ln hi hp, shape_rp c⟩
end
section
variable {J : Jx} {x : Str} {p pos : Pos} {k n : Nat} {ks : List Str} {gD : List D → List D → List D} {F : FD}
/-- the calls -/
theorem pf_c {e : Expr} {es : List Expr} {fa : SA} (O : CallOk J.X.prog J.X.w J.X.K J.X.mg J.X.base x k n [] gD F) (gd : J.X.A.guards = some []) (hr : Room k J.X.A) (tk : Takes J.X J.W) (ha : PFA J true (e :: es) fa) (hg : Gl J.X x := by rfl) (hdb : (x == ("__debug__" : Str)) = false := by decide)
    (he : starEach (e :: es) J.X.env = (false, eval e J.X.env) :: starEach es J.X.env := by rfl) (hpl : (backTo pos (starEach es J.X.env)).any (·.1) = false := by rfl) : PF J true (.Call (.Name x p) (e :: es) [] pos) (sCall n 0 gD F fa sNil) := by
  obtain ⟨f, fd, ps, g, gV, Fk, hm, hk, hb, hl, hD⟩ := O.ex
  exact pf_call ⟨Fk, hm, hk⟩ gd hr tk hb (fun vs zs a b => hl vs zs a b) hD ha hg hdb he hpl
theorem pf_c0 (O : CallOk J.X.prog J.X.w J.X.K J.X.mg J.X.base x k 0 [] gD F) (gd : J.X.A.guards = some []) (hr : Room k J.X.A) (tk : Takes J.X J.W) (hg : Gl J.X x := by rfl) (hdb : (x == ("__debug__" : Str)) = false := by decide) : PF J true (.Call (.Name x p) [] [] pos) (sCall 0 0 gD F sNil sNil) := by
  obtain ⟨f, fd, ps, g, gV, Fk, hm, hk, hb, hl, hD⟩ := O.ex
  exact pf_call0 ⟨Fk, hm, hk⟩ gd hr tk hb (fun vs zs a b => hl vs zs a b) hD hg hdb
theorem pf_cK {e : Expr} {es : List Expr} {kw : Keyword} {kws : List Keyword} {fa fk : SA} (O : CallOk J.X.prog J.X.w J.X.K J.X.mg J.X.base x k n ks gD F) (gd : J.X.A.guards = some []) (hr : Room k J.X.A) (tk : Takes J.X J.W) (ha : PFA J true (e :: es) fa) (hkw : PFK J (kw :: kws) fk) (hg : Gl J.X x := by rfl)
    (hall : (backToKw pos (keywordEach (kw :: kws) J.X.env)).all (·.1.isSome) = true := by rfl) (hks : (backToKw pos (keywordEach (kw :: kws) J.X.env)).filterMap (·.1) = ks := by rfl) (hdb : (x == ("__debug__" : Str)) = false := by decide)
    (he : starEach (e :: es) J.X.env = (false, eval e J.X.env) :: starEach es J.X.env := by rfl) (hpl : ((backTo pos (starEach (e :: es) J.X.env)).any (·.1) || (backToKw pos (keywordEach (kw :: kws) J.X.env)).any (·.1.isNone)) = false := by rfl) :
    PF J true (.Call (.Name x p) (e :: es) (kw :: kws) pos) (sCall n ks.length gD F fa fk) := by
  obtain ⟨f, fd, ps, g, gV, Fk, hm, hk, hb, hl, hD⟩ := O.ex
  exact pf_callN ⟨Fk, hm, hk⟩ gd hr tk hb hl hD ha hkw hg hall hks hdb he hpl
theorem pf_cK0 {kw : Keyword} {kws : List Keyword} {fk : SA} (O : CallOk J.X.prog J.X.w J.X.K J.X.mg J.X.base x k 0 ks gD F) (gd : J.X.A.guards = some []) (hr : Room k J.X.A) (tk : Takes J.X J.W) (hkw : PFK J (kw :: kws) fk) (hg : Gl J.X x := by rfl)
    (hall : (backToKw pos (keywordEach (kw :: kws) J.X.env)).all (·.1.isSome) = true := by rfl) (hks : (backToKw pos (keywordEach (kw :: kws) J.X.env)).filterMap (·.1) = ks := by rfl) (hdb : (x == ("__debug__" : Str)) = false := by decide)
    (hpl : ((backTo pos (starEach [] J.X.env)).any (·.1) || (backToKw pos (keywordEach (kw :: kws) J.X.env)).any (·.1.isNone)) = false := by rfl) : PF J true (.Call (.Name x p) [] (kw :: kws) pos) (sCall 0 ks.length gD F sNil fk) := by
  obtain ⟨f, fd, ps, g, gV, Fk, hm, hk, hb, hl, hD⟩ := O.ex
  exact pf_callN0 ⟨Fk, hm, hk⟩ gd hr tk hb hl hD hkw hg hall hks hdb hpl
end
/-! ### own exception classes: from the facts -/
section
variable {P : Program} {w : World} {K : PySem.W.Frag} {mg : Str → Option Value} {base : Heap} {x qual self p q : Str} {params : Arguments} {scope : Scope} {C fI : Addr} {fd : FuncData} {N ps : List Str} {f g : Str} {q1 q2 q3 q4 r1 r2 r3 r4 : Pos}
theorem init1 (T : XC K C) (hno : PySem.W.findIn K (.ref C) f = some none) (F : FunD K x qual params [.Assign [.Attribute (.Name self q1) f q2] (.Name p q3) q4] scope [] [] fI fd) (S : FnScope [self, p] [self, p] scope)
    (v0 : Vis scope self) (v1 : Vis scope p) (d0 : (self == ("__debug__" : Str)) = false) (d1 : (p == ("__debug__" : Str)) = false) (c0 : (self == ("__classdict__" : Str)) = false) (c1 : (p == ("__classdict__" : Str)) = false) :
    FnOk P w K mg base (L2.CX P w) 1 fI fd [self, p] (spI1 K C f) := by
  refine F.ok S (fun vs H Q E ⟨a, y, e, _⟩ => by rw [e]; rfl) fun cdv A outer s H vs Q E hr ⟨a, y, e, ea, h⟩ => ⟨_, pss_one (ps_st (C := C) (i := 1) rfl rfl v0 v1 d0 d1 c0 c1), ?_⟩
  subst e
  exact ⟨a, y, rfl, rfl, T, hno, .inl ⟨ea, fun dx n ne => h dx n ne⟩⟩
theorem init2 (T : XC K C) (hf : PySem.W.findIn K (.ref C) f = some none) (hg : PySem.W.findIn K (.ref C) g = some none) (F : FunD K x qual params [.Assign [.Attribute (.Name self q1) f q2] (.Name p q3) q4, .Assign [.Attribute (.Name self r1) g r2] (.Name q r3) r4] scope [] [] fI fd) (S : FnScope [self, p, q] [self, p, q] scope)
    (v0 : Vis scope self) (v1 : Vis scope p) (v2 : Vis scope q) (d0 : (self == ("__debug__" : Str)) = false) (d1 : (p == ("__debug__" : Str)) = false) (d2 : (q == ("__debug__" : Str)) = false) (c0 : (self == ("__classdict__" : Str)) = false) (c1 : (p == ("__classdict__" : Str)) = false) (c2 : (q == ("__classdict__" : Str)) = false) :
    FnOk P w K mg base (L2.CX P w) 1 fI fd [self, p, q] (spI2 K C f g) := by
  refine F.ok S (fun vs H Q E ⟨a, y, z, e, _⟩ => by rw [e]; rfl) fun cdv A outer s H vs Q E hr ⟨a, y, z, e, ea, h⟩ => ⟨_, pss_cons (ps_st (C := C) (i := 1) rfl rfl v0 v1 d0 d1 c0 c1) (pss_one (ps_st (C := C) (i := 2) rfl rfl v0 v2 d0 d2 c0 c2)), ?_⟩
  subst e
  refine ⟨a, y, rfl, rfl, T, hf, .inl ⟨ea, fun dx n ne => ⟨a, z, rfl, rfl, T, hg, .inr ⟨dx, _, upd_same, by rw [upd_ne ne, upd_same], by show 1 ≤ 900; decide, ?_⟩⟩⟩⟩
  have e : upd (upd (upd H dx (exd dx [(f, y)])) a (exo a C (some dx))) dx (exd dx [(g, z), (f, y)]) = upd (upd H dx (exd dx [(g, z), (f, y)])) a (exo a C (some dx)) := by
    funext b
    by_cases hb : b = dx
    · rw [hb, upd_same, upd_ne ne, upd_same]
    · rw [upd_ne hb]
      by_cases ha : b = a
      · rw [ha, upd_same, upd_same]
      · rw [upd_ne ha, upd_ne ha, upd_ne hb, upd_ne hb]
  rw [e]
  exact h dx n ne
end
section
variable {P : Program} {w : World} {K : PySem.W.Frag} {mg' : Str → Option Value} {base : Heap} {x qual self p q c : Str} {params : Arguments} {body : List Stmt} {scope : Scope} {C fI : Addr} {fd : FuncData} {f g : Str} {n : Nat} {ks : List Str}
def gdX (ix : List Nat) : List D → List D → List D := fun ds zs => pick ix (ds ++ zs)
theorem xdef1 (T : XC K C) (hmg : mg' c = some (.ref C)) (iC : PySem.W.findIn K (.ref C) "__init__" = some (some (.ref fI))) (tI : PySem.W.typeIn K (.ref fI) = some (.type "function")) (F1 : FnOk P w K mg' base (L2.CX P w) 1 fI fd [self, p] (spI1 K C f))
    (Fd : FunD K x qual params body scope [] [] fI fd) (hn : n + ks.length = 1)
    (h : ∀ (kV doc pm : Value) (an : Option Addr) (cdv ct : Value) (us ws : List Value), us.length = n + 1 → ws.length = ks.length → bindArgs (PySem.W.fnOf x qual params body scope .none kV doc pm an cdv ct) ⟨us, ks.zip ws⟩ = pure ([self, p].zip (pick [0, 1] (us ++ ws)))) :
    XDef P w K mg' base c 1 n ks [f] (gdX [0]) := by
  refine ⟨C, fI, fd, _, _, fun us ws => pick [0, 1] (us ++ ws), fun vs zs => pick [0, 1] (vs ++ zs), fun vs zs => pick [0] (vs ++ zs), T, hmg, iC, tI, F1, ⟨fun s us ws X l1 l2 => ?_, fun r1 r2 => pick_vals (r1.append r2) _⟩, by omega, fun a vs zs H Q E l1 l2 na hx => ?_, fun vs zs l1 l2 => ?_, fun ω H ds vs zs ws r1 r2 => pick_reps (r1.append r2) _⟩
  · obtain ⟨oc, od, dV, kV, doc, pm, an, cdv, ct, osl, rfl, _, _, hD, _⟩ := Fd.ex
    rcases hD with ⟨_, rfl⟩ | ⟨e, _⟩
    · exact .of_eq (h kV doc pm an cdv ct us ws l1 l2)
    · exact absurd rfl e
  · obtain ⟨y, e⟩ : ∃ y, vs ++ zs = [y] := List.length_eq_one_iff.mp (by rw [List.length_append]; omega)
    dsimp only at hx ⊢
    rw [e] at hx
    exact ⟨a, y, by rw [List.cons_append, e]; rfl, upd_same, hx⟩
  · obtain ⟨y, e⟩ : ∃ y, vs ++ zs = [y] := List.length_eq_one_iff.mp (by rw [List.length_append]; omega)
    dsimp only
    rw [e]; rfl
theorem xdef2 (sw : Bool) (T : XC K C) (hmg : mg' c = some (.ref C)) (iC : PySem.W.findIn K (.ref C) "__init__" = some (some (.ref fI))) (tI : PySem.W.typeIn K (.ref fI) = some (.type "function")) (F1 : FnOk P w K mg' base (L2.CX P w) 1 fI fd [self, p, q] (spI2 K C f g))
    (Fd : FunD K x qual params body scope [] [] fI fd) (hn : n + ks.length = 2)
    (h : ∀ (kV doc pm : Value) (an : Option Addr) (cdv ct : Value) (us ws : List Value), us.length = n + 1 → ws.length = ks.length → bindArgs (PySem.W.fnOf x qual params body scope .none kV doc pm an cdv ct) ⟨us, ks.zip ws⟩ = pure ([self, p, q].zip (pick (if sw then [0, 2, 1] else [0, 1, 2]) (us ++ ws)))) :
    XDef P w K mg' base c 1 n ks [g, f] (gdX (if sw then [0, 1] else [1, 0])) := by
  have two : ∀ {l : List V}, l.length = 2 → ∃ y z, l = [y, z] := fun {l} e => by
    match l, e with
    | [y, z], _ => exact ⟨y, z, rfl⟩
  refine ⟨C, fI, fd, _, _, fun us ws => pick (if sw then [0, 2, 1] else [0, 1, 2]) (us ++ ws), fun vs zs => pick (if sw then [0, 2, 1] else [0, 1, 2]) (vs ++ zs), fun vs zs => pick (if sw then [0, 1] else [1, 0]) (vs ++ zs), T, hmg, iC, tI, F1, ⟨fun s us ws X l1 l2 => ?_, fun r1 r2 => pick_vals (r1.append r2) _⟩, by omega, fun a vs zs H Q E l1 l2 na hx => ?_, fun vs zs l1 l2 => ?_, fun ω H ds vs zs ws r1 r2 => pick_reps (r1.append r2) _⟩
  · obtain ⟨oc, od, dV, kV, doc, pm, an, cdv, ct, osl, rfl, _, _, hD, _⟩ := Fd.ex
    rcases hD with ⟨_, rfl⟩ | ⟨e, _⟩
    · exact .of_eq (h kV doc pm an cdv ct us ws l1 l2)
    · exact absurd rfl e
  · obtain ⟨y, z, e⟩ := two (l := vs ++ zs) (by rw [List.length_append]; omega)
    dsimp only at hx ⊢
    rw [e] at hx
    cases sw
    · exact ⟨a, y, z, by rw [List.cons_append, e]; rfl, upd_same, hx⟩
    · exact ⟨a, z, y, by rw [List.cons_append, e]; rfl, upd_same, hx⟩
  · obtain ⟨y, z, e⟩ := two (l := vs ++ zs) (by rw [List.length_append]; omega)
    dsimp only
    rw [e]; cases sw <;> rfl
end
end PF

/-! PF, part k: try and its clauses. -/
namespace PF
open PySem L2 PySem.Spec PyProof.Rows
section
variable {J : Jx} {pins : List (Addr × Obj)} {σ : L2.St} {H : Hp} {a : Addr} {cls : Value} {d : Option Addr} {s s' : Shared}
/-- an exception at a flies through this frame; B: the ground, sI: the state without it -/
structure Air (X : Cx) (pins : List (Addr × Obj)) (σ : L2.St) (H : Hp) (a : Addr) (cls : Value) (d : Option Addr) (B : Heap) (sI s' : Shared) : Prop where
  inv : Inv X pins σ H sI
  nb : ∀ b o, sI.heap.get? b = some o → b ∉ frs X.stack → B.get? b = some o
  up : sI.heap.UpToSlots s'.heap
  fl : HandSPX.FlyingZ B (X.env :: X.outer) a (Zc cls d) s'.heap
  na : H a = none
  os : s'.os = sI.os
  ag : AllBare s'.gens
theorem flying_more {B h h' : Heap} {l : List PySem.Env} {Z : Obj → Prop} (k : ∀ b o, h.get? b = some o → h'.get? b = some o) (f : HandSPX.FlyingZ B l a Z h) : HandSPX.FlyingZ B l a Z h' := by
  obtain ⟨f1, f2, f3, oe, vs, T, oT, ts, e1, z, e2, e3, e4, e5, e6, e7, e8⟩ := f
  exact ⟨fun b o q => k b o (f1 b o q), f2, f3.of_keeps fun b o q _ => ⟨o, k b o q, rfl⟩, oe, vs, T, oT, ts, k _ _ e1, z, e2, e3, e4, e5, k _ _ e6, e7, e8⟩
section
variable {X : Cx} {B : Heap} {sI : Shared}
theorem Air.here (x : Air X pins σ H a cls d B sI s') : Inv X pins σ H s' := x.inv.landed x.nb x.fl.1 x.up x.os x.ag
theorem Air.more {h' : Heap} (x : Air X pins σ H a cls d B sI s') (k : ∀ b o, s'.heap.get? b = some o → h'.get? b = some o) : Air X pins σ H a cls d B sI { s' with heap := h' } :=
  ⟨x.inv, x.nb, x.up.trans (.of_keeps k), flying_more k x.fl, x.na, x.os, x.ag⟩
theorem Air.there (x : Air X pins σ H a cls d B sI s') : ∃ oe vs, s'.heap.get? a = some oe ∧ Zc cls d oe ∧ oe.data = .fields vs := x.fl.there
theorem Air.notfr (x : Air X pins σ H a cls d B sI s') : a ∉ frs (X.env :: X.outer) := fun hm => by
  obtain ⟨oe, vs, e, z, dv⟩ := x.there
  obtain ⟨_, o', e', hn⟩ := x.fl.2.2.1.mem hm
  rw [e] at e'
  cases e'
  exact hn _ dv
theorem Air.gone (x : Air X pins σ H a cls d B sI s') (hs : X.stack = X.env :: X.outer) : sI.heap.get? a = none := by
  cases e : sI.heap.get? a with
  | none => rfl
  | some o =>
    have z := x.nb a o e (by rw [hs]; exact x.notfr)
    rw [x.fl.2.1] at z
    cases z
/-- the exception as a thing of ours -/
theorem Air.held (x : Air X pins σ H a cls d B sI s') (hs : X.stack = X.env :: X.outer) {C : Addr} (hc : cls = .ref C) : Inv X pins σ (upd H a (xnO C d a)) s' := by
  obtain ⟨oe, vs, e, z, dv⟩ := x.there
  obtain ⟨G, g1, g2⟩ := restrict s'.heap fun b => decide (b ≠ a)
  have gk : ∀ b, b ≠ a → G.get? b = s'.heap.get? b := fun b hb => g1 b (decide_eq_true hb)
  have ga : G.get? a = none := g2 a (by simp)
  have ne : ∀ {b : Addr} {o : Obj} {h : Heap}, h.get? b = some o → h.get? a = none → b ≠ a := fun {b o h} q n z => by rw [z, n] at q; cases q
  have gn := x.gone hs
  have J := x.inv.landed (s' := { s' with heap := G }) x.nb (fun b o q => (gk b (ne q x.fl.2.1)).trans (x.fl.1 b o q)) (fun b o q hn => by
    obtain ⟨sl, q2⟩ := x.up b o q hn
    exact ⟨sl, (gk b (ne q gn)).trans q2⟩) x.os x.ag
  subst hc
  exact J.laidN (h' := s'.heap) (a := a) (o := xnO C d a) (t' := s'.toks) (fun b o q => by rw [← gk b (ne q ga)]; exact q) ga x.na ⟨⟨oe, vs, e, z, dv⟩, ⟨oe, e⟩, fun h1 h2 ⟨o, v, e1, e2, e3⟩ kk => ⟨o, v, kk _ e1, e2, e3⟩⟩
/-- it flies on -/
theorem Air.out {W : WX} {Dn : Ends} (x : Air X pins σ H a cls d B sI s') (hs : X.stack = X.env :: X.outer) (hf : X.env.frame = some X.env.locals) (tk : Takes X W) (w : W cls d σ H) : wpAny (model X.prog X.w) X.A (handleBy (.ref a) X.env []) (SP X pins Dn) X.xe s' := by
  refine wpAny_handleBy_nil ?_
  obtain ⟨_, _, _, oe, vs, T, oT, ts, he, _, hd, h1, _⟩ := id x.fl
  unfold PySem.passOn
  refine wpAny_bind (wpAny_field he hd h1 ?_)
  rw [if_neg (show ¬ ((Value.ref T == Value.none) = true) from by simp)]
  have fin : wpAny (model X.prog X.w) X.A (setFlight (.ref a) X.env.frame) (fun _ s4 => wpAny (model X.prog X.w) X.A (throw (.ref a) : Sem Flow) (SP X pins Dn) X.xe s4) X.xe s' := by
    rw [hf]
    exact HandSPX.setFlight_upZ x.fl fun h4 hh4 up4 => wpAny_throw (tk _ _ ⟨a, B, sI, pins, σ, H, cls, d, rfl, x.inv, x.nb, x.up.trans up4, .inr (.inr (by rw [hs]; exact hh4)), x.na, x.os, x.ag, w⟩)
  first
    | exact wpAny_bind (wpAny_pure (wpAny_bind fin))
    | exact wpAny_bind fin
end
/-! ### what a clause names -/
def hitD (mt : List (Str × List Str)) (cs : List Str) : D → Option Bool
  | .exn c _ _ => (mt.lookup c).map fun l => cs.any fun x => l.contains x
  | _ => none
def PFX (J : Jx) (te : Expr) (test : D → Option Bool) : Prop := ∀ (pn : List (Addr × Obj)) (a : Addr) (s : Shared) (σ : L2.St) (H : Hp) (oe : Obj) (c : Str) (C : Addr) (ns : List Str) (xs : List D) (b : Bool) (Q : Value → Shared → Prop) (E : Value → Shared → Prop),
  Inv (J.X.suite a pn) [] σ H s → J.X.mg c = some (.ref C) → s.heap.get? a = some oe → oe.cls = .ref C → test (.exn c ns xs) = some b →
  (∀ v h', (∀ q o, s.heap.get? q = some o → h'.get? q = some o) → PySem.W.Looks (model J.X.prog J.X.w) h' (excMatches (.ref a) v) b → Q v { s with heap := h' }) → wpAny (model J.X.prog J.X.w) (J.X.A.mark (some (.ref a))) (eval te J.X.env) Q E s
/-- the class x, at cv, as the table mt tells it -/
structure ClsOk (K : PySem.W.Frag) (mg : Str → Option Value) (mt : List (Str × List Str)) (x : Str) (cv : Value) : Prop where
  ok : ∀ c l C, mt.lookup c = some l → mg c = some (.ref C) → PySem.W.exmOne K (.ref C) cv = some (l.contains x)
/-- where a global name or a built-in name stands -/
def At (mg : Str → Option Value) (x : Str) (cv : Value) : Prop := (x == ("__debug__" : Str)) = false ∧ (mg x = some cv ∨ (mg x = none ∧ bootBuiltins x = some cv ∧ x ≠ "__name__"))
/-- an exception class in a clause -/
structure ExG (K : PySem.W.Frag) (mg : Str → Option Value) (mt : List (Str × List Str)) (x : Str) : Prop where
  ex : ∃ cv, At mg x cv ∧ ClsOk K mg mt x cv
theorem name_in {J : Jx} {pn : List (Addr × Obj)} {a : Addr} {s : Shared} {σ : L2.St} {H : Hp} {x : Str} {cv : Value} {np : Pos} {Q : Value → Shared → Prop} {E : Value → Shared → Prop} (hn : Names J.X x cv) (I : Inv (J.X.suite a pn) [] σ H s) (q : Q cv s) :
    wpAny (model J.X.prog J.X.w) (J.X.A.mark (some (.ref a))) (eval (.Name x np) J.X.env) Q E s := by
  obtain ⟨hg, hdbg, hm | ⟨hm, hv, hnn⟩⟩ := hn
  · exact ld_glob (X := J.X.suite a pn) I hg hm q hdbg
  · exact ld_blt (X := J.X.suite a pn) I hg hm hv q hnn hdbg
theorem pfx_name {mt : List (Str × List Str)} {x : Str} {np : Pos} (h : ExG J.X.K J.X.mg mt x) (hg : Gl J.X x := by rfl) : PFX J (.Name x np) (hitD mt [x]) := by
  obtain ⟨cv, ⟨hdb, hat⟩, hc⟩ := h.ex
  have hn : Names J.X x cv := ⟨hg, hdb, hat⟩
  intro pn a s σ H oe c C ns xs b Q E I mg ea ec ht q
  refine name_in hn I (q cv s.heap (fun _ _ z => z) ?_)
  unfold hitD at ht
  dsimp only at ht
  cases hl : mt.lookup c with
  | none => rw [hl] at ht; cases ht
  | some l =>
    rw [hl] at ht
    have e : b = l.contains x := by
      have := Option.some.inj ht
      simpa using this.symm
    subst e
    exact PySem.W.exm_one I.kIn (fun A Q E s k q => wpAny_typeOf_ref (k _ _ ea) (by rw [ec]; exact q)) (hc.ok c l C hl mg)
theorem pfx_tup2 {mt : List (Str × List Str)} {x y : Str} {np mp tpos : Pos} {kk : Nat} (h1 : ExG J.X.K J.X.mg mt x) (h2 : ExG J.X.K J.X.mg mt y) (g1 : Gl J.X x := by rfl) (g2 : Gl J.X y := by rfl) : PFX J (.Tuple [.Name x np, .Name y mp] kk tpos) (hitD mt [x, y]) := by
  obtain ⟨cv, ⟨db1, at1⟩, hc⟩ := h1.ex
  obtain ⟨dv, ⟨db2, at2⟩, hd⟩ := h2.ex
  have hn : Names J.X x cv := ⟨g1, db1, at1⟩
  have hm : Names J.X y dv := ⟨g2, db2, at2⟩
  intro pn a s σ H oe c C ns xs b Q E I mg ea ec ht q
  refine wpAny_Tuple (wpAny_items_cons (name_in hn I (wpAny_items_cons (name_in hm I (wpAny_items_nil ⟨by size_fits, ?_⟩)))))
  have kp : ∀ q o, s.heap.get? q = some o → (s.heap.push { cls := .type "tuple", data := .seq [cv, dv].toArray }).get? q = some o := fun _ _ z => Heap.get?_push_of_some _ z
  unfold hitD at ht
  dsimp only at ht
  cases hl : mt.lookup c with
  | none => rw [hl] at ht; cases ht
  | some l =>
    rw [hl] at ht
    have e : b = (l.contains x || l.contains y) := by
      have := Option.some.inj ht
      simpa using this.symm
    subst e
    refine q _ _ kp (PySem.W.exm_tup2 (I.kIn.keeps kp) (fun A Q E s k q => wpAny_typeOf_ref (k _ _ (kp _ _ ea)) (by rw [ec]; exact q)) (Heap.get?_push_size s.heap rfl) ?_)
    unfold PySem.W.exmAny
    rw [hc.ok c l C hl mg]
    unfold PySem.W.exmAny
    rw [hd.ok c l C hl mg]
    unfold PySem.W.exmAny
    simp
/-! ### the clauses -/
abbrev SH := D → SS
def PFH (J : Jx) (hds : List ExceptHandler) (h : SH) : Prop := ∀ (pins : List (Addr × Obj)) (σ : L2.St) (H : Hp) (ω : Wd) (env : En) (S : Sto) (e : D) (a : Addr) (cls : Value) (d : Option Addr) (B : Heap) (sI s' : Shared) (Dn : Ends),
  Air J.X pins σ H a cls d B sI s' → Sim J.G J.anc ω env S σ H → RepX J.G ω H e cls d → PostS J (h e env S) Dn → wpAny (model J.X.prog J.X.w) J.X.A (handleBy (.ref a) J.X.env hds) (SP J.X pins Dn) J.X.xe s'
def hNil : SH := fun e env S => .ex e env S
theorem pfh_nil (hs : J.X.stack = J.X.env :: J.X.outer) (hf : J.X.env.frame = some J.X.env.locals) (tk : Takes J.X J.W) : PFH J [] hNil := fun pins σ H ω env S e a cls d B sI s' Dn x sm r q =>
  x.out hs hf tk (q cls d σ H ω sm r)
def unO (i : Nat) : O → O
  | .nx env S => .nx (env.set i none) S
  | .bk env S => .bk (env.set i none) S
  | .ct env S => .ct (env.set i none) S
  | .rt d S => .rt d S
  | _ => .stk
def noX : O → O
  | .ex _ _ _ => .stk
  | o => o
def hAs (test : D → Option Bool) (i : Nat) (fs : SS) (rest : SH) : SH := fun e env S => match test e with
  | some true => unO i (fs (env.set i (some (.val e))) S)
  | some false => rest e env S
  | none => .stk
def hNo (test : D → Option Bool) (fs : SS) (rest : SH) : SH := fun e env S => match test e with
  | some true => noX (fs env S)
  | some false => rest e env S
  | none => .stk
/-- where an except suite stands -/
def Jx.su (J : Jx) (a : Addr) (pn : List (Addr × Obj)) : Jx := ⟨J.X.suite a pn, fun _ _ _ _ => False, J.anc⟩
theorem suite_in {X : Cx} (I : Inv X pins σ H s) (a : Addr) : Inv (X.suite a (X.pn ++ pins)) [] σ H s :=
  ⟨I.ok.suite _ _, I.os, I.bare, I.base, I.loc, I.cell, I.free, I.freeC, fun p hp => I.pin p (by rw [List.append_nil] at hp; exact hp), I.hok, I.len⟩
theorem suite_out {X : Cx} {pn' : List (Addr × Obj)} (I : Inv (X.suite a (X.pn ++ pins)) pn' σ H s) (ok : X.Ok) : Inv X pins σ H s :=
  ⟨ok, I.os, I.bare, I.base, I.loc, I.cell, I.free, I.freeC, fun p hp => I.pin p (List.mem_append_left _ hp), I.hok, I.len⟩
theorem takes_suite {X : Cx} {pn : List (Addr × Obj)} : Takes (X.suite a pn) (fun _ _ _ _ => False) := fun _ _ ⟨_, _, _, _, _, _, _, _, _, _, _, _, _, _, _, _, w⟩ => w.elim
theorem repx_rep {G : Gc} {ω : Wd} {S : Sto} {e : D} {C : Addr} (t : Sim0 G ω S H) (r : RepX G ω H e (.ref C) d) (na : H a = none) : Rep G ω (upd H a (xnO C d a)) e (.ref a) := by
  have r2 := r.le t.mu (Le.new (ω := ω) (o := xnO C d a) na)
  obtain ⟨c, ns, xs, vs, C', e1, g, e2, k, o, n, rs⟩ := r2
  cases e2
  subst e1
  exact .exn g upd_same (fun z => t.ud a z na) k o n rs
theorem repx_cls {G : Gc} {ω : Wd} {e : D} (r : RepX G ω H e cls d) : ∃ c ns xs C, e = .exn c ns xs ∧ G.mg c = some (.ref C) ∧ cls = .ref C := by
  obtain ⟨c, ns, xs, vs, C, e1, g, e2, _⟩ := r
  exact ⟨c, ns, xs, C, e1, g, e2⟩
/-- the test of a clause, then the rest -/
theorem clause_go {te : Expr} {test : D → Option Bool} {nm : Option Str} {b₀ : Stmt} {suite : List Stmt} {hds : List ExceptHandler} {rest : SH} {pos : Pos} {ω : Wd} {env : En} {S : Sto} {e : D} {B : Heap} {sI : Shared} {Dn : Ends} {b : Bool}
    (hs : J.X.stack = J.X.env :: J.X.outer) (hx : PFX J te test) (hr : PFH J hds rest) (x : Air J.X pins σ H a cls d B sI s') (sm : Sim J.G J.anc ω env S σ H) (r : RepX J.G ω H e cls d) (ht : test e = some b) (hno : b = false → PostS J (rest e env S) Dn)
    (hyes : b = true → ∀ s2, Air J.X pins σ H a cls d B sI s2 → codeAny (model J.X.prog J.X.w) (J.X.A.mark (some (.ref a))) (.handlers (.ref a) [.ExceptHandler none nm (b₀ :: suite) pos] J.X.env) (fun r s₂ => match r with
          | .ok f => (match nm with
            | none => SP J.X pins Dn f s₂
            | some n => wpAny (model J.X.prog J.X.w) J.X.A (do bindName J.X.env n .none; unbindBehindTheSuite J.X.env n pos) (fun _ s₃ => SP J.X pins Dn f s₃) J.X.xe s₂)
          | .error x => cameBackBy (model J.X.prog J.X.w) J.X.A J.X.env J.X.xe x s₂) s2) :
    wpAny (model J.X.prog J.X.w) J.X.A (handleBy (.ref a) J.X.env (.ExceptHandler (some te) nm (b₀ :: suite) pos :: hds)) (SP J.X pins Dn) J.X.xe s' := by
  obtain ⟨c, ns, xs, C, e1, mg, e2⟩ := repx_cls r
  obtain ⟨oe, vs, he, hz, hd⟩ := x.there
  have JH := x.held hs e2
  refine wpAny_handleBy_cons (codeAny_handlers_test ?_) (by intro q; cases q)
  refine hx (J.X.pn ++ pins) a s' σ _ oe c C ns xs b _ _ (suite_in JH a) mg he (hz.1.trans e2) (by rw [← e1]; exact ht) fun v h' k LM => LM.here ?_
  have x2 := x.more k
  cases b with
  | true => exact hyes rfl _ x2
  | false => exact hr pins σ H ω env S e a cls d B sI _ Dn x2 sm r (hno rfl)
/-- except te: suite -/
theorem pfh_no {te : Expr} {test : D → Option Bool} {b₀ : Stmt} {suite : List Stmt} {hds : List ExceptHandler} {fs : SS} {rest : SH} {pos : Pos} (hs : J.X.stack = J.X.env :: J.X.outer) (hx : PFX J te test) (hsu : ∀ a pn, PFB (J.su a pn) (b₀ :: suite) fs) (hr : PFH J hds rest) :
    PFH J (.ExceptHandler (some te) none (b₀ :: suite) pos :: hds) (hNo test fs rest) := by
  intro pins σ H ω env S e a cls d B sI s' Dn x sm r q
  unfold hNo at q
  cases ht : test e with
  | none => rw [ht] at q; exact q.elim
  | some b =>
    rw [ht] at q
    refine clause_go hs hx hr x sm r ht (fun hb => by subst hb; exact q) fun hb s2 x2 => codeAny_handlers_suite ?_
    subst hb
    obtain ⟨c, ns, xs, C, e1, mg, e2⟩ := repx_cls r
    refine HandSPX.lands_againZ x2.fl fun h4 fl4 up4 => ?_
    have x4 : Air J.X pins σ H a cls d B sI { s2 with heap := h4 } := ⟨x2.inv, x2.nb, x2.up.trans up4, fl4, x2.na, x2.os, x2.ag⟩
    have JH := suite_in (x4.held hs e2) a
    have q' : PostS J (noX (fs env S)) Dn := q
    refine wpAny_mono ((hsu a (J.X.pn ++ pins)).run [] _ _ _ Dn JH ⟨ω, env, S, sm.new x4.na, ?_⟩) (fun f s6 hsp => ?_) (fun _ _ z => False.elim z)
    · cases ho : fs env S with
      | nx env2 S2 => rw [ho] at q'; exact q'
      | rt d2 S2 => rw [ho] at q'; exact q'
      | bk env2 S2 => rw [ho] at q'; exact q'
      | ct env2 S2 => rw [ho] at q'; exact q'
      | ex e2 env2 S2 => rw [ho] at q'; exact q'.elim
      | stk => rw [ho] at q'; exact q'.elim
    · have ok := x.inv.ok
      cases f with
      | next => obtain ⟨σ6, H6, S6, q6⟩ := hsp; exact ⟨_, _, suite_out S6 ok, q6⟩
      | brk => obtain ⟨σ6, H6, S6, q6⟩ := hsp; exact ⟨_, _, suite_out S6 ok, q6⟩
      | cont => obtain ⟨σ6, H6, S6, q6⟩ := hsp; exact ⟨_, _, suite_out S6 ok, q6⟩
      | ret u => obtain ⟨v6, σ6, H6, S6, r6, q6⟩ := hsp; exact ⟨_, _, _, suite_out S6 ok, r6, q6⟩
theorem Sim.unset {G : Gc} {anc : Anc} {ω : Wd} {env : En} {S : Sto} (s : Sim G anc ω env S σ H) (i : Nat) : Sim G anc ω (env.set i none) S (σ.set i none) H := s.wipe [i]
/-- except te as n: suite -/
theorem pfh_as {te : Expr} {test : D → Option Bool} {n : Str} (i : Nat) {b₀ : Stmt} {suite : List Stmt} {hds : List ExceptHandler} {fs : SS} {rest : SH} {pos : Pos} (hs : J.X.stack = J.X.env :: J.X.outer) (hx : PFX J te test) (hsu : ∀ a pn, PFB (J.su a pn) (b₀ :: suite) fs) (hr : PFH J hds rest)
    (hN : J.X.N.Nodup) (hi : J.X.N[i]? = some n := by rfl) (hln : J.X.env.kindOf n = some .local := by rfl) : PFH J (.ExceptHandler (some te) (some n) (b₀ :: suite) pos :: hds) (hAs test i fs rest) := by
  intro pins σ H ω env S e a cls d B sI s' Dn x sm r q
  unfold hAs at q
  cases ht : test e with
  | none => rw [ht] at q; exact q.elim
  | some b =>
    rw [ht] at q
    refine clause_go hs hx hr x sm r ht (fun hb => by subst hb; exact q) fun hb s2 x2 => codeAny_handlers_suite_as ?_
    subst hb
    obtain ⟨c, ns, xs, C, e1, mg, e2⟩ := repx_cls r
    subst e2
    have ok := x.inv.ok
    refine HandSPX.lands_againZ x2.fl fun h4 fl4 up4 => ?_
    have x4 : Air J.X pins σ H a (.ref C) d B sI { s2 with heap := h4 } := ⟨x2.inv, x2.nb, x2.up.trans up4, fl4, x2.na, x2.os, x2.ag⟩
    have JH := suite_in (x4.held hs rfl) a
    have q' : PostS J (unO i (fs (env.set i (some (.val e))) S)) Dn := q
    refine store_ok (X := J.X.suite a (J.X.pn ++ pins)) (v := .ref a) JH hN hi (.inl hln) rfl (fun s5 S5 => ?_) (.inr hln)
    have sm5 : Sim J.G J.anc ω (env.set i (some (.val e))) S (σ.set i (some (.ref a))) (upd H a (xnO C d a)) := (sm.new x4.na).setV i (repx_rep sm.st r x4.na)
    refine wpAny_mono ((hsu a (J.X.pn ++ pins)).run [] s5 _ _ { nx := fun σ' H' => Dn.nx (σ'.set i none) H', rt := Dn.rt, bk := fun σ' H' => Dn.bk (σ'.set i none) H', ct := fun σ' H' => Dn.ct (σ'.set i none) H' } S5 ⟨ω, _, S, sm5, ?_⟩) (fun f s6 hsp => ?_) (fun _ _ z => False.elim z)
    · cases ho : fs (env.set i (some (.val e))) S with
      | nx env2 S2 => rw [ho] at q'; exact fun σ H ω s => q' _ H ω (s.unset i)
      | rt d2 S2 => rw [ho] at q'; exact q'
      | bk env2 S2 => rw [ho] at q'; exact fun σ H ω s => q' _ H ω (s.unset i)
      | ct env2 S2 => rw [ho] at q'; exact fun σ H ω s => q' _ H ω (s.unset i)
      | ex e2 env2 S2 => rw [ho] at q'; exact q'.elim
      | stk => rw [ho] at q'; exact q'.elim
    · have end_ : ∀ {σ6 : L2.St} {H6 : Hp} {Q : Shared → Prop}, Inv (J.X.suite a (J.X.pn ++ pins)) [] σ6 H6 s6 → (∀ s7, Inv J.X pins (σ6.set i none) H6 s7 → Q s7) →
          wpAny (model J.X.prog J.X.w) J.X.A (do bindName J.X.env n .none; unbindBehindTheSuite J.X.env n pos) (fun _ s7 => Q s7) J.X.xe s6 := fun {σ6 H6 Q} S6 hq => gone_ok (suite_out S6 ok) hN hi hln hq
      cases f with
      | next => obtain ⟨σ6, H6, S6, q6⟩ := hsp; exact end_ S6 fun s7 J7 => ⟨_, _, J7, q6⟩
      | brk => obtain ⟨σ6, H6, S6, q6⟩ := hsp; exact end_ S6 fun s7 J7 => ⟨_, _, J7, q6⟩
      | cont => obtain ⟨σ6, H6, S6, q6⟩ := hsp; exact end_ S6 fun s7 J7 => ⟨_, _, J7, q6⟩
      | ret u => obtain ⟨v6, σ6, H6, S6, r6, q6⟩ := hsp; exact end_ S6 fun s7 J7 => ⟨_, _, _, J7, r6, q6⟩
/-- try: body, the clauses -/
def sTry (fb : SS) (h : SH) : SS := fun env S => match fb env S with
  | .ex e env' S' => h e env' S'
  | o => o
def Jx.tb (J : Jx) (pn : List (Addr × Obj)) (xe : Value → Shared → Prop) (W : WX) : Jx := ⟨J.X.tr pn xe, W, J.anc⟩
theorem pfs_try {body : List Stmt} {h₀ : ExceptHandler} {hds : List ExceptHandler} {fb : SS} {h : SH} {pos : Pos} (hs : J.X.stack = J.X.env :: J.X.outer) (hf : J.X.env.frame = some J.X.env.locals)
    (hb : ∀ (W : WX) (pn : List (Addr × Obj)) (xe : Value → Shared → Prop), Takes (J.X.tr pn xe) W → PassesOwn (model J.X.prog J.X.w) J.X.A J.X.env xe → PFB (J.tb pn xe W) body fb) (hh : PFH J (h₀ :: hds) h) : PFS J (.Try body (h₀ :: hds) [] [] pos) (sTry fb h) := by
  refine ⟨fun pins s σ H Dn I ⟨ω, env, S, sm, q⟩ => ?_⟩
  have ok := I.ok
  have hfr : J.X.A.frames = some (J.X.env :: J.X.outer) := by rw [ok.frames, hs]
  have W : WX := fun cls d σ H => ∃ ω env S e, Sim J.G J.anc ω env S σ H ∧ RepX J.G ω H e cls d ∧ PostS J (h e env S) Dn
  refine wpAny_Try_except ?_
  refine wpAny_mono ((hb (fun cls d σ H => ∃ ω env S e, Sim J.G J.anc ω env S σ H ∧ RepX J.G ω H e cls d ∧ PostS J (h e env S) Dn) (J.X.pn ++ pins) (fun e s₁ => wpAny (model J.X.prog J.X.w) J.X.A (noteFrame e J.X.env) (fun _ s₂ => wpAny (model J.X.prog J.X.w) J.X.A (setFlight e none) (fun _ s₃ =>
    wpAny (model J.X.prog J.X.w) J.X.A (handleBy e J.X.env (h₀ :: hds)) (SP J.X pins Dn) J.X.xe s₃) J.X.xe s₂) J.X.xe s₁) (fun u s' xx => ?_) PassesOwn.looking).run [] s σ H Dn (I.toTry _) ⟨ω, env, S, sm, ?_⟩) (fun f s1 hsp => ?_) (fun e s1 he => he)
  · obtain ⟨a, B, sI, pins', σ', H', cls, d, rfl, J', nb, up, sky, na, os, ag, ω', env', S', e, sm', r', q'⟩ := xx
    have sky' : Sky B (J.X.env :: J.X.outer) a (Zc cls d) J.X.env.locals s'.heap := by rw [← hs]; exact sky
    show wpAny (model J.X.prog J.X.w) J.X.A (noteFrame (.ref a) J.X.env) _ _ _
    exact Sky.land Zc.steady hfr hf sky' fun h3 fl3 up3 => hh pins σ' H' ω' env' S' e a cls d B sI _ Dn ⟨J'.ofTry ok, nb, up.trans up3, fl3, na, os, ag⟩ sm' r' q'
  · unfold sTry at q
    cases ho : fb env S with
    | nx env2 S2 => rw [ho] at q; exact q
    | rt d2 S2 => rw [ho] at q; exact q
    | bk env2 S2 => rw [ho] at q; exact q
    | ct env2 S2 => rw [ho] at q; exact q
    | ex e2 env2 S2 => rw [ho] at q; exact fun cls od σ2 H2 ω2 s2 r2 => ⟨ω2, env2, S2, e2, s2, r2, q⟩
    | stk => rw [ho] at q; exact q
  · cases f with
    | next => obtain ⟨σ', H', J', q⟩ := hsp; exact wpAny_execs_nil ⟨σ', H', J'.ofTry ok, q⟩
    | brk => obtain ⟨σ', H', J', q⟩ := hsp; exact ⟨σ', H', J'.ofTry ok, q⟩
    | cont => obtain ⟨σ', H', J', q⟩ := hsp; exact ⟨σ', H', J'.ofTry ok, q⟩
    | ret u => obtain ⟨v, σ', H', J', r, q⟩ := hsp; exact ⟨v, σ', H', J'.ofTry ok, r, q⟩
end
end PF

/-! PF, part l: attributes of exceptions; isinstance. -/
namespace PF
open PySem L2 PySem.Spec PyProof.Rows
section
variable {J : Jx} {pins : List (Addr × Obj)} {σ : L2.St} {H : Hp} {s : Shared}
theorem lookup_zip {G : Gc} {ω : Wd} {f : Str} : ∀ {ns : List Str} {xs : List D} {vs : List V} {d : D}, Reps G ω H xs vs → (ns.zip xs).lookup f = some d → ∃ v, (ns.zip vs).lookup f = some v ∧ Rep G ω H d v
  | [], _, _, _, _, h => by simp at h
  | n :: ns, [], _, _, _, h => by simp at h
  | n :: ns, x :: xs, _, d, r, h => by
    cases r with
    | @cons _ v _ vs a b =>
      rw [List.zip_cons_cons, List.lookup_cons] at h
      rw [List.zip_cons_cons, List.lookup_cons]
      cases e : f == n with
      | true => rw [e] at h; cases h; exact ⟨v, rfl, a⟩
      | false => rw [e] at h; exact lookup_zip b h
/-- the exception object at a, as the library's rules see it -/
theorem xn_inst {C a : Addr} {od : Option Addr} {fs : List (Str × V)} (I : Inv J.X pins σ H s) (h : H a = some (xnO C od a)) (hd : ∀ d, od = some d → H d = some (.xd fs)) :
    ∃ (oe : Obj) (oD : Option Obj), PySem.W.InstAt s.heap a oe C oD ∧ ∀ d, od = some d → ∃ (o : Obj) (mA : Str → Option Value), oD = some o ∧ (∀ name, PySem.W.lookIn name o = some (mA name)) ∧ ∀ f, RelO (fs.lookup f) (mA f) := by
  obtain ⟨⟨oe, vs, e, z, dv⟩, _⟩ := (show ObjOk J.X.prog J.X.w H s.heap a (.ext fun h => ∃ (oe : Obj) (vs : Array Value), h.get? a = some oe ∧ Zc (.ref C) od oe ∧ oe.data = .fields vs) from I.hok a _ h)
  have no : PySem.W.notCls oe = true := by unfold PySem.W.notCls; rw [dv] <;> rfl
  cases od with
  | none => exact ⟨oe, none, ⟨e, z.1, no, by rw [z.2]; trivial⟩, fun d q => nomatch q⟩
  | some d =>
    obtain ⟨mA, hns, hr⟩ := (show ObjOk J.X.prog J.X.w H s.heap d (.xd fs) from I.hok d _ (hd d rfl))
    obtain ⟨o, ho, hl⟩ := lookIn_ns hns
    exact ⟨oe, some o, ⟨e, z.1, no, by rw [z.2]; exact ho⟩, fun d' q => by cases q; exact ⟨o, mA, rfl, hl, hr⟩⟩
/-- exception classes whose instances' attribute f is their own -/
structure XfOk (K : PySem.W.Frag) (mg : Str → Option Value) (f : Str) (cs : List Str) : Prop where
  ok : ∀ c ∈ cs, ∀ C, mg c = some (.ref C) → XC K C ∧ PySem.W.findIn K (.ref C) f = some none
def gXf (f : Str) (cs : List Str) (d : D) : Option D := match d with
  | .exn c ns xs => if cs.contains c then (ns.zip xs).lookup f else none
  | _ => none
def sXf (f : Str) (cs : List Str) (fe : SE) : SE := fun env S => (fe env S).bind fun d S1 => match gXf f cs d with
  | some x => .ok x S1
  | none => .stk
theorem pf_xf {e : Expr} {fe : SE} {f : Str} {cs : List Str} {pos : Pos} {st : Bool} (h : PF J st e fe) (hx : XfOk J.X.K J.X.mg f cs) (hb : attributeBase e f J.X.env (eval e J.X.env) = eval e J.X.env := by rfl) : PF J true (.Attribute e f pos) (sXf f cs fe) := by
  refine ⟨fun pins s σ H Q I ⟨ω, env, S, sm, q⟩ => attr_of hb (thn (h.run pins s σ H (fun v H1 => ∃ ω1 S1 d x, Le ω H ω1 H1 ∧ Sim J.G J.anc ω1 env S1 σ H1 ∧ TRep J.G ω1 H1 env σ st d v ∧ gXf f cs d = some x ∧ PostR J σ env ω1 H1 (fun ω' H' d v => TRep J.G ω' H' env σ true d v) (.ok x S1) Q) I ⟨ω, env, S, sm, post_bind q fun d S1 ω1 H1 v l1 s1 r1 h1 => ?_⟩)
    fun u s1 ⟨v, H1, I1, rv, ω1, S1, d, x, l1, sm1, r, hg, q1⟩ => ?_)⟩
  · cases hg : gXf f cs d with
    | none => rw [hg] at h1; exact h1.elim
    | some x => rw [hg] at h1; exact ⟨ω1, S1, d, x, l1, s1, r1, hg, h1⟩
  · cases d with
    | exn c ns xs =>
      unfold gXf at hg
      dsimp only at hg
      by_cases hc : cs.contains c = true
      · rw [if_pos hc] at hg
        rcases r with r | ⟨_, i, o, _, e, _⟩
        · cases r with
          | @exn a C od _ _ _ vs g1 ha n k o e rs =>
            obtain ⟨T, hno⟩ := hx.ok c (List.contains_iff_mem.mp hc) C g1
            obtain ⟨y, hy, ry⟩ := lookup_zip (ns := ns) rs hg
            obtain ⟨oe, oD, J1, hl⟩ := xn_inst I1 ha fun d q => (k d q).1
            cases od with
            | none =>
              rw [o rfl] at hg
              rw [List.zip_nil_right] at hg
              cases hg
            | some dd =>
              obtain ⟨ob, mA, rfl, hlk, hr⟩ := hl dd rfl
              obtain ⟨w, hw, rw'⟩ := RelO.some_of (v := y) (o := mA f) (by rw [← hy]; exact hr f)
              cases rv
              exact HandSPX.exc_get I1.kIn J1 T.ga T.gg T.exC (PySem.W.findObj_own T.hd hno rfl (by rw [hlk, hw])) (handed_of rw') ⟨y, H1, I1.tok _, rw', q1 y H1 ω1 (Le.refl _ _) sm1 (Or.inl ry)⟩
        · cases o with
          | lst _ => cases e
          | dct _ _ => cases e
          | ins _ _ _ =>
            have e' : D.exn c ns xs = .exn Str.empty [] [] := e
            cases e'
            cases hg
      · rw [if_neg hc] at hg
        cases hg
    | _ => cases hg
/-! ### isinstance -/
def tyN (S : Sto) : D → Option Str
  | .non => some "NoneType"
  | .bl _ => some "bool"
  | .int _ => some "int"
  | .str _ => some "str"
  | .tup _ => some "tuple"
  | .lst _ => some "list"
  | .scr _ => some "list"
  | .dct _ _ => some "dict"
  | .exn _ _ _ => none
  | .ref n => match S[n]? with
    | some (.lst _) => some "list"
    | some (.dct _ _) => some "dict"
    | some (.ins c _ _) => some c
    | none => none
/-- the classes of a value: mb for built-in types and own classes, mx for own exceptions -/
def lin (mb mx : List (Str × List Str)) (S : Sto) : D → Option (List Str)
  | .exn c _ _ => mx.lookup c
  | d => (tyN S d).bind fun t => mb.lookup t
inductive TyV (mg : Str → Option Value) : Str → Value → Prop
  | non : TyV mg "NoneType" (.type "NoneType")
  | bl : TyV mg "bool" (.type "bool")
  | int : TyV mg "int" (.type "int")
  | str : TyV mg "str" (.type "str")
  | tup : TyV mg "tuple" (.type "tuple")
  | lst : TyV mg "list" (.type "list")
  | dct : TyV mg "dict" (.type "dict")
  | own {c : Str} {C : Addr} : mg c = some (.ref C) → TyV mg c (.ref C)
structure InsC (K : PySem.W.Frag) (C : Addr) : Prop where
  cl : Cls K C
  ha : PySem.W.findIn K (.ref C) "__class__" = some (some (.builtin "object.__class__"))
  hn : PySem.W.specialIn K (.builtin "object.__class__") "__get__" = some (some (.builtin "getset_descriptor.__get__"))
  ht : PySem.W.takesIn K (.builtin "object.__class__") = some true
  hm : PySem.W.mroIn K C (.type "object") = some true
structure MtOk (K : PySem.W.Frag) (mg : Str → Option Value) (mb mx : List (Str × List Str)) : Prop where
  x : ∀ c l C, mx.lookup c = some l → mg c = some (.ref C) → XC K C
  i : ∀ c l C, mb.lookup c = some l → mg c = some (.ref C) → InsC K C
  e : mx.lookup Str.empty = none
/-- the class x at cv answers as the tables tell -/
structure IsOk (K : PySem.W.Frag) (mg : Str → Option Value) (mb mx : List (Str × List Str)) (x : Str) (cv : Value) : Prop where
  ok : ∀ t l τ, TyV mg t τ → (mb.lookup t = some l ∨ mx.lookup t = some l) → PySem.W.kitOne K τ cv = some (l.contains x)
theorem cls_own {K : PySem.W.Frag} {C : Addr} (T : XC K C) : (PySem.W.clsIn K C).isSome = true := by
  obtain ⟨cd, h, _⟩ := T.data
  rw [h]; rfl
theorem kit_rep {mb mx : List (Str × List Str)} {ω : Wd} {env : En} {S : Sto} {d : D} {v : V} {u : Value} {l : List Str} (I : Inv J.X pins σ H s) (sm : Sim J.G J.anc ω env S σ H) (M : MtOk J.X.K J.X.mg mb mx) (r : TRep J.G ω H env σ false d v) (ru : RelV v u) (hl : lin mb mx S d = some l) :
    ∃ (t : Str) (τ : Value) (P : Heap → Prop), TyV J.X.mg t τ ∧ (mb.lookup t = some l ∨ mx.lookup t = some l) ∧ PySem.W.KitX J.X.K u τ P ∧ P s.heap ∧ u ≠ .builtin "__main__.__loader__#opaque" := by
  have viaTy : ∀ {t : Str} {τ : Value}, TyV J.X.mg t τ → mb.lookup t = some l → TyX J.X.K H v τ → ∃ (t : Str) (τ : Value) (P : Heap → Prop), TyV J.X.mg t τ ∧ (mb.lookup t = some l ∨ mx.lookup t = some l) ∧ PySem.W.KitX J.X.K u τ P ∧ P s.heap ∧ u ≠ .builtin "__main__.__loader__#opaque" := fun {t τ} h1 h2 h3 => by
    obtain ⟨P, k, p, n⟩ := kit_of I ru h3
    exact ⟨t, τ, P, h1, .inl h2, k, p, n⟩
  rcases r with r | ⟨_, i, o, he, e, hv⟩
  · cases r with
    | non => exact viaTy .non hl (.base .non)
    | bl => exact viaTy .bl hl (.base (.bl _))
    | int => exact viaTy .int hl (.base (.int _))
    | str => exact viaTy .str hl (.base (.str _))
    | tup h _ _ => exact viaTy .tup hl (.base (.tup h))
    | lst h _ _ => exact viaTy .lst hl (.base (.lst h))
    | scr h =>
      rcases h with ⟨h | ⟨o, h⟩, _⟩ | ⟨o, its, n, lk, oc, _⟩
      · exact viaTy .lst hl (.base (.lst h))
      · exact viaTy .lst hl (.base (.frz h))
      · exact viaTy .lst hl (.kList lk oc)
    | dct h _ _ _ => exact viaTy .dct hl (.base (.dK h))
    | @ref a n h =>
      have hl' : (tyN S (.ref n)).bind (fun t => mb.lookup t) = some l := hl
      unfold tyN at hl'
      cases hs : S[n]? with
      | none => simp only [hs] at hl'; cases hl'
      | some o =>
        simp only [hs] at hl'
        obtain ⟨a', ha, ro⟩ := sm.st.obj n o hs
        rw [h] at ha
        cases ha
        cases o with
        | lst xs => obtain ⟨vs, h1, _⟩ := ro; exact viaTy .lst hl' (.base (.lst h1))
        | dct ks xs => obtain ⟨vs, h1, _⟩ := ro; exact viaTy .dct hl' (.base (.dK h1))
        | ins c ns xs =>
          obtain ⟨C, dx, vs, g, h1, _⟩ := ro
          have IC := M.i c l C hl' g
          exact viaTy (.own g) hl' (.base (.ins h1 IC.cl IC.ha IC.hn IC.ht IC.hm))
    | @exn a C od c ns xs vs g ha n k o e rs =>
      have T := M.x c l C hl g
      obtain ⟨oe, oD, J1, _⟩ := xn_inst I ha fun d q => (k d q).1
      cases ru
      exact ⟨c, .ref C, _, .own g, .inr hl, PySem.W.kitx_exc (cls_own T) T.ga T.gg T.exC T.ca T.cn T.ct T.cm, J1, fun z => nomatch z⟩
  · obtain ⟨w, e1, a, ea, ro, _⟩ := sm.vals i _ he
    rw [hv] at e1
    cases e1
    subst ea
    subst e
    cases o with
    | lst xs => obtain ⟨vs, h1, _⟩ := ro; exact viaTy .lst hl (.base (.lst h1))
    | dct ks xs => obtain ⟨vs, h1, _⟩ := ro; exact viaTy .dct hl (.base (.dK h1))
    | ins c ns xs =>
      have hl' : mx.lookup Str.empty = some l := hl
      rw [M.e] at hl'
      cases hl'
theorem pe_clsv {X : Cx} {x : Str} {cv : Value} {c : V} {p : Pos} (hn : Names X x cv) (hc : ClsV c cv) : PE X (.Name x p) (tC c) := by
  refine ⟨fun pins s σ H Q I h => ?_⟩
  have rc : RelV c cv := by cases hc <;> rfl
  obtain ⟨hg, hdbg, hm | ⟨hm, hv, hnn⟩⟩ := hn
  · exact ld_glob I hg hm ⟨c, H, I, rc, h⟩ hdbg
  · exact ld_blt I hg hm hv ⟨c, H, I, rc, h⟩ hnn hdbg
/-- the class x: where it stands, how it answers -/
structure ClsA (K : PySem.W.Frag) (mg : Str → Option Value) (mb mx : List (Str × List Str)) (x : Str) : Prop where
  ex : ∃ (cv : Value) (c : V), At mg x cv ∧ ClsV c cv ∧ IsOk K mg mb mx x cv
def sIsi (mb mx : List (Str × List Str)) (cs : List Str) (fe : SE) : SE := fun env S => (fe env S).bind fun d S1 => match lin mb mx S1 d with
  | some l => .ok (.bl (cs.any fun x => l.contains x)) S1
  | none => .stk
theorem pf_isi {mb mx : List (Str × List Str)} {e : Expr} {fe : SE} {x : Str} {p np pos : Pos} {st : Bool} (M : MtOk J.X.K J.X.mg mb mx) (hm : J.X.mg "isinstance" = none) (he : PF J st e fe) (hx : ClsA J.X.K J.X.mg mb mx x) (gx : Gl J.X x := by rfl) (hg : Gl J.X "isinstance" := by rfl)
    (hs : starEach [e, .Name x np] J.X.env = (false, eval e J.X.env) :: starEach [.Name x np] J.X.env := by rfl) (hpl : (backTo pos (starEach [.Name x np] J.X.env)).any (·.1) = false := by rfl) : PF J true (.Call (.Name "isinstance" p) [e, .Name x np] [] pos) (sIsi mb mx [x] fe) := by
  obtain ⟨cv, c, ⟨hdb, hat⟩, hc, ok⟩ := hx.ex
  have hn : Names J.X x cv := ⟨gx, hdb, hat⟩
  refine ⟨fun pins s σ H Q I ⟨ω, env, S, sm, q⟩ => ?_⟩
  refine wpAny_Call_Name_kw (ld_blt I hg hm (by decide +kernel : bootBuiltins "isinstance" = some (.builtin "isinstance")) ?_ (by decide) (by decide))
  refine PyProof.Rows.callWith_builtin1 (thn ((pa_cons he (pa_cons (pe_clsv hn hc) pa_nil) hs).run pos pins s σ H (fun vs H1 => ∃ ω1 S1 d v l, vs = [v, c] ∧ Le ω H ω1 H1 ∧ Sim J.G J.anc ω1 env S1 σ H1 ∧ TRep J.G ω1 H1 env σ st d v ∧ lin mb mx S1 d = some l ∧ PostR J σ env ω1 H1 (fun ω' H' d v => TRep J.G ω' H' env σ true d v) (.ok (.bl ([x].any fun x => l.contains x)) S1) Q) I ⟨ω, env, S, sm, post_bind q fun d S1 ω1 H1 v l1 s1 r1 h1 => ?_⟩)
    fun us s1 ⟨vs, H1, I1, rv, ω1, S1, d, v, l, ev, l1, sm1, r, hl, q1⟩ => ?_) hs hpl
  · show ∃ ω1 S1 d v' l, [v, c] = [v', c] ∧ _
    cases hl : lin mb mx S1 d with
    | none => rw [hl] at h1; exact h1.elim
    | some l => rw [hl] at h1; exact ⟨ω1, S1, d, v, l, rfl, l1, s1, r1, hl, h1⟩
  · subst ev
    obtain ⟨u1, u2, rfl, r1, r2⟩ := vals2 rv
    have e2 := hc.eq r2
    subst e2
    obtain ⟨t, τ, P, ht, hlk, Z, hp, hne⟩ := kit_rep I1 sm1 M r.any r1 hl
    refine PySem.W.kia_one Z I1.kIn hp (ok.ok t l τ ht hlk) hne fun tk => ⟨.bl (l.contains x), H1, I1.tok tk, rfl, ?_⟩
    have q2 := q1 (.bl ([x].any fun x => l.contains x)) H1 ω1 (Le.refl _ _) sm1 (Or.inl .bl)
    simpa using q2
inductive ClsAs (J : Jx) (mb mx : List (Str × List Str)) : List Expr → List Str → Prop
  | nil : ClsAs J mb mx [] []
  | cons {x : Str} {p : Pos} {es : List Expr} {xs : List Str} (h : ClsA J.X.K J.X.mg mb mx x) (r : ClsAs J mb mx es xs) (g : Gl J.X x := by rfl) : ClsAs J mb mx (.Name x p :: es) (x :: xs)
theorem ClsAs.pa {mb mx : List (Str × List Str)} {es : List Expr} {xs : List Str} (h : ClsAs J mb mx es xs) : ∃ (cs : List V) (us : List Value), Paired ClsV cs us ∧ PA J.X es (fun _ H Q => Q cs H) ∧ cs.length = es.length ∧ ∀ t l τ, TyV J.X.mg t τ → (mb.lookup t = some l ∨ mx.lookup t = some l) → PySem.W.kitAny J.X.K τ us = some (xs.any fun x => l.contains x) := by
  induction h with
  | nil => exact ⟨[], [], .nil, PA.imp pa_nil fun _ _ _ q => q, rfl, fun _ _ _ _ _ => rfl⟩
  | @cons x p es xs hx r gx ih =>
    obtain ⟨cv, c, ⟨hdb, hat⟩, hc, ok⟩ := hx.ex
    have hn : Names J.X x cv := ⟨gx, hdb, hat⟩
    obtain ⟨cs, us, pr, pa, hl, hk⟩ := ih
    refine ⟨c :: cs, cv :: us, .cons hc pr, PA.imp (pa_cons (pe_clsv hn hc) pa) fun _ _ _ q => q, congrArg Nat.succ hl, fun t l τ ht hlk => ?_⟩
    rw [List.any_cons]
    refine kitAny_cons (ok.ok t l τ ht hlk) (fun hb => ?_) fun hb => ?_
    · rw [hb, Bool.false_or]; exact hk t l τ ht hlk
    · rw [hb, Bool.true_or]
theorem pf_isiT {mb mx : List (Str × List Str)} {e : Expr} {fe : SE} {xs : List Str} {es : List Expr} {kk : Nat} {p tp pos : Pos} {st : Bool} (M : MtOk J.X.K J.X.mg mb mx) (hm : J.X.mg "isinstance" = none) (he : PF J st e fe) (hx : ClsAs J mb mx es xs) (hz : es.length ≤ 1000 := by decide) (hg : Gl J.X "isinstance" := by rfl)
    (hs : starEach [e, .Tuple es kk tp] J.X.env = (false, eval e J.X.env) :: starEach [.Tuple es kk tp] J.X.env := by rfl) (hpl : (backTo pos (starEach [.Tuple es kk tp] J.X.env)).any (·.1) = false := by rfl) : PF J true (.Call (.Name "isinstance" p) [e, .Tuple es kk tp] [] pos) (sIsi mb mx xs fe) := by
  obtain ⟨cs, ws, pr, pa, hlen, hk⟩ := hx.pa
  refine ⟨fun pins s σ H Q I ⟨ω, env, S, sm, q⟩ => ?_⟩
  refine wpAny_Call_Name_kw (ld_blt I hg hm (by decide +kernel : bootBuiltins "isinstance" = some (.builtin "isinstance")) ?_ (by decide) (by decide))
  refine PyProof.Rows.callWith_builtin1 (thn ((pa_cons he (pa_cons (pe_tup pa) pa_nil) hs).run pos pins s σ H (fun vs H1 => ∃ ω1 S1 d v l tp, vs = [v, .ref tp] ∧ H1 tp = some (.tup cs) ∧ Sim J.G J.anc ω1 env S1 σ H1 ∧ TRep J.G ω1 H1 env σ st d v ∧ lin mb mx S1 d = some l ∧ PostR J σ env ω1 H1 (fun ω' H' d v => TRep J.G ω' H' env σ true d v) (.ok (.bl (xs.any fun x => l.contains x)) S1) Q) I ⟨ω, env, S, sm, post_bind q fun d S1 ω1 H1 v l1 s1 r1 h1 => ?_⟩)
    fun us s1 ⟨vs, H1, I1, rv, ω1, S1, d, v, l, tp, ev, etp, sm1, r, hl, q1⟩ => ?_) hs hpl
  · refine ⟨by rw [hlen, sizeLine_eq]; omega, fun pt npt => ?_⟩
    cases hl : lin mb mx S1 d with
    | none => rw [hl] at h1; exact h1.elim
    | some l => rw [hl] at h1; exact ⟨ω1, S1, d, v, l, pt, rfl, upd_same, s1.new npt, r1.le s1.st.mu (Le.new npt), hl, PostR.from (Le.new npt) h1⟩
  · subst ev
    obtain ⟨u1, u2, rfl, r1, r2⟩ := vals2 rv
    cases (show u2 = Value.ref tp from r2)
    obtain ⟨t, τ, P, ht, hlk, Z, hp, hne⟩ := kit_rep I1 sm1 M r.any r1 hl
    obtain ⟨_, its, rw', o, h1, h2, n, h3⟩ := (show ObjOk J.X.prog J.X.w H1 s1.heap tp (.tup cs) from I1.hok tp _ etp)
    have e3 := ClsV.all pr rw'
    subst e3
    obtain ⟨oc, od, dt, sl⟩ := o
    simp only at h2 h3
    subst h2 h3
    exact PySem.W.kia_tup Z I1.kIn hp h1 (hk t l τ ht hlk) hne fun tk => ⟨.bl (xs.any fun x => l.contains x), H1, I1.tok tk, rfl, q1 _ H1 ω1 (Le.refl _ _) sm1 (Or.inl .bl)⟩
end
end PF

/-! PF, part z: from the law's def to the statement. -/
namespace PF
open PySem L2 PySem.Spec PyProof.Rows
/-- what a law's function of data must do -/
def LawOk (n : Nat) (F : FD) : Prop := ∀ ns : List Int, ns.length ≤ n → (∀ k ∈ ns, Builtin.Int.intBits k ≤ 1048576) → ∃ S, F [.scr ns] [] = .ok (.bl true) S
theorem law_run {P : Program} {w : World} {K : PySem.W.Frag} {mg mb : Str → Option Value} {k : Nat} {fa a : Addr} {fd : FuncData} {x : Str} {F : FD} {s : Shared} {vs : List Value} {ns : List Int}
    (KX : K.In s.heap) (hns : s.heap.Ns mainGlobals mg) (hb : s.heap.Ns builtinsNs mb) (hbb : ∀ x : Str, x ≠ "__name__" → mb x = bootBuiltins x) (hlim : s.heap.NoLimit) (hg : s.gens = #[])
    (ha : s.heap.get? a = some { cls := .type "list", data := .seq vs.toArray }) (hi : IntsAre vs ns) (hl : ns.length ≤ sizeLine) (hr : Room k callerA)
    (Fk : ∀ base : Heap, K.In base → base.Ns mainGlobals mg → Fg P w K mg base k fa fd [x] (spF ⟨K, mg⟩ 1 F)) (hbind : ∀ (s : Shared) (u : Value), BindsTo s fd ⟨[u], []⟩ [(x, u)]) {S' : Sto} (hF : F [.scr ns] [] = .ok (.bl true) S') :
    codeAny (model P w) callerA (.call (.ref fa) ⟨[.ref a], []⟩) (fun r s' => r = .ok (.ret (.bool true)) ∧ OldK s.heap s'.heap ∧ s'.os = s.os ∧ AllBare s'.gens) s := by
  have rv := vals_ints hi
  obtain ⟨H, hO, hS, hok, hA, hK⟩ : ∃ H : Hp, Only H ∧ ScrAt K ⟨[], fun _ => False, fun _ => False⟩ H a ns ∧ HOk P w H s.heap ∧ (∀ b, H b ≠ none → b = a) ∧ (H a ≠ none → K.lookup a = none) := by
    cases hk : K.lookup a with
    | some o =>
      have e := KX a o hk
      rw [ha] at e
      cases e
      exact ⟨fun _ => none, fun _ => .inl rfl, .inr ⟨_, vs.toArray, _, hk, rfl, rfl, rfl, by rw [List.size_toArray, hi.length]; exact hl, by simpa using rv⟩, (fun b u z => nomatch (show (none : Option HO) = some u from z)), (fun b z => absurd rfl z), (fun z => absurd rfl z)⟩
    | none =>
      refine ⟨upd (fun _ => none) a (.frz { cls := .type "list", data := .seq vs.toArray } (.lst (ns.map V.int))), fun b => ?_, .inl ⟨.inr ⟨_, upd_same⟩, fun z => z⟩, fun b u z => ?_, fun b z => ?_, fun _ => rfl⟩
      · by_cases e : b = a
        · exact .inr ⟨_, _, by rw [e, upd_same]⟩
        · exact .inl (upd_ne e)
      · by_cases e : b = a
        · subst e
          rw [upd_same] at z
          cases z
          exact ⟨ha, by rw [List.length_map]; exact hl, vs, _, rv, ha⟩
        · rw [upd_ne e] at z
          cases z
      · by_cases e : b = a
        · exact e
        · exact absurd (upd_ne e) z
  have noH : ∀ {b : Addr} {o : Obj} {es : Array DictEntry} {ep : Nat}, s.heap.get? b = some o → o.data = .dict es ep → H b = none := fun {b o es ep} e d => by
    cases q : H b with
    | none => rfl
    | some u =>
      rw [hA b (by rw [q]; simp), ha] at e
      cases e
      cases (show Data.seq vs.toArray _ = Data.dict es ep from d)
  have low : ∀ {b : Addr} {m : Str → Option Value}, s.heap.Ns b m → (hidT s.heap H).Ns b m := fun ⟨o, es, ep, e, d, r⟩ => ⟨o, es, ep, hidT_get e (noH e d), d, r⟩
  have hKb : K.In (hidT s.heap H) := fun b o e => hidT_get (KX b o e) (by
    cases q : H b with
    | none => rfl
    | some u =>
      have eb := hA b (by rw [q]; simp)
      subst eb
      rw [hK (by rw [q]; simp)] at e
      cases e)
  obtain ⟨mc, lim1, lim2⟩ := hlim
  have e0 : Env0 P w K mg (hidT s.heap H) callerA [] s H :=
    ⟨rfl, ⟨hKb, low hns, ⟨mb, low hb, hbb⟩, ⟨mc, low lim1, lim2⟩⟩, fun b o e => of_hidT e, Nat.le_of_eq (hidT_size _ _), trivial, fun b hb => absurd (show b ∈ ([] : List Addr) from hb) (by simp), hok, .of_eq hg⟩
  have sm : Sim0 ⟨K, mg⟩ ⟨[], fun _ => False, fun _ => False⟩ [] H := ⟨fun _ z => z.elim, fun _ z => z.elim, fun _ z => (nomatch z), List.nodup_nil, rfl, fun n o z => by simp at z⟩
  refine codeAny_mono ((Fk _ hKb (low hns)).run callerA [] s H ⟨[.ref a], []⟩ [.ref a] [.ref a] (fun v _ => v = .bl true) (fun _ _ _ => False) rfl hr e0 (hbind s (.ref a)) (.cons rfl .nil) ⟨rfl, _, [.scr ns], [], sm, .cons (.scr hS) .nil, ?_⟩) fun r s' h => ?_
  · rw [hF]
    intro v H' ω' _ _ rp
    cases rp
    rfl
  · match r, h with
    | .error e, h => obtain ⟨_, _, _, _, _, _, _, _, _, _, _, _, z⟩ := h; exact z.elim
    | .ok .next, h => exact h.elim
    | .ok .brk, h => exact h.elim
    | .ok .cont, h => exact h.elim
    | .ok (.ret u), h =>
      obtain ⟨v, H', os, bare, un, hok', r', q⟩ := h
      obtain rfl : v = .bl true := q
      obtain rfl : u = Value.bool true := r'
      refine ⟨rfl, OldK.of_keep fun b o e => ?_, os, bare⟩
      rcases hO b with n | ⟨ob, xs, z⟩
      · exact un.keep b o e n (by intro z; exact absurd (show b ∈ ([] : List Addr) from z) (by simp)) (by simp)
      · obtain ⟨e1, _⟩ := hok b _ z
        obtain ⟨e2, _⟩ := hok' b _ (un.frzs b ob _ z)
        rw [e] at e1
        cases e1
        exact e2
/-- the goal that k_head leaves, from the walk F and the plain law -/
theorem pf_walk {l : PySem.W.OpenLaw} {n k : Nat} {q : Program} {loose : List Str} {XP : (Str → Option Value) → Heap → Prop} {YP : World → Heap → Prop} {d : DefRec} {K : Params → PySem.W.Frag} {x : Str} {Fl : FD}
    (hn : l.most = some n) (hn2 : n ≤ sizeLine) (hdf : d.params.defaults = []) (hr : Room k callerA) (hY : ∀ (w : World) (h : Heap), YP w h → (K w.params).In h)
    (F : ∀ (w : World) (mg : Str → Option Value) (fa : Addr) (h : Heap), (K w.params).In h → h.Ns mainGlobals mg → mg d.name = some (.ref fa) →
      ∃ fd : FuncData, (∀ (s : Shared) (u : Value), BindsTo s fd ⟨[u], []⟩ [(x, u)]) ∧ ∀ base : Heap, (K w.params).In base → base.Ns mainGlobals mg → Fg l.prog w (K w.params) mg base k fa fd [x] (spF ⟨K w.params, mg⟩ 1 Fl))
    (hlaw : LawOk n Fl) : PySem.W.WalkO q loose XP YP l.row.toRowW d [] (fun f vs => PySem.call f vs) := by
  refine Att.attach_callB hn hdf fun w s₀ s₁ mg mb fa o pm cd doc a vs ns G Y ho hd hcd hmg hobj hints hlen hbits hg => ?_
  have KX := hY w _ Y
  obtain ⟨fd, hb, hF⟩ := F w mg fa _ KX G.T.g hmg
  obtain ⟨S', e⟩ := hlaw ns hlen hbits
  exact law_run KX G.T.g G.T.b G.T.builtins G.T.nolimit hg hobj hints (Nat.le_trans hlen hn2) hr hF hb e
end PF

/-! PF, part m: short forms for the printed derivations. -/
namespace PF
open PySem L2 PySem.Spec PyProof.Rows
section
variable {P : Program} {w : World} {K : PySem.W.Frag} {mg : Str → Option Value} {base : Heap} {N : List Str} {qual : Str} {scope : Scope} {f : Addr} {cd : Value} {A : Around} {outer : List PySem.Env} {s : Shared} {H : Hp} {E : XK} {anc : Anc}
theorem fj_takes : Takes (fJ P w K mg base N qual scope f cd A outer s H E anc).X (fJ P w K mg base N qual scope f cd A outer s H E anc).W := takes_of rfl rfl rfl rfl
theorem fj_passes : PassesOwn (model P w) (fJ P w K mg base N qual scope f cd A outer s H E anc).X.A (fJ P w K mg base N qual scope f cd A outer s H E anc).X.env (fJ P w K mg base N qual scope f cd A outer s H E anc).X.xe := passes_of rfl
theorem fj_guards (gd : A.guards = some []) : (fJ P w K mg base N qual scope f cd A outer s H E anc).X.A.guards = some [] := gd
end
section
variable {J : Jx} {k : Nat} {a b : Expr} {fa fb : SE} {s1 s2 : Bool} {pos : Pos}
theorem hu64 (hr : Room k J.X.A) : J.X.A.units + 64 < cLine := hr.units
theorem hu66 (hr : Room k J.X.A) : J.X.A.units + 66 < cLine := by have := hr.un; omega
theorem pf_eq (hr : Room k J.X.A) (ha : PF J s1 a fa) (hb : PF J s2 b fb) (hm : behindInMarks .Eq b = false := by rfl) : PF J true (.Compare a [.Eq] [b] pos) (sBin gEq fa fb) := pf_cmp (op_eqA (hu64 hr)) opd_eq ha hb hm
theorem pf_ne (hr : Room k J.X.A) (ha : PF J s1 a fa) (hb : PF J s2 b fb) (hm : behindInMarks .NotEq b = false := by rfl) : PF J true (.Compare a [.NotEq] [b] pos) (sBin gNe fa fb) := pf_cmp (op_neA (hu64 hr)) opd_ne ha hb hm
theorem pf_lt (ha : PF J s1 a fa) (hb : PF J s2 b fb) (hm : behindInMarks .Lt b = false := by rfl) : PF J true (.Compare a [.Lt] [b] pos) (sBin gLt fa fb) := pf_cmp op_lt opd_B ha hb hm
theorem pf_le (ha : PF J s1 a fa) (hb : PF J s2 b fb) (hm : behindInMarks .LtE b = false := by rfl) : PF J true (.Compare a [.LtE] [b] pos) (sBin gLe fa fb) := pf_cmp op_le opd_B ha hb hm
theorem pf_gt (ha : PF J s1 a fa) (hb : PF J s2 b fb) (hm : behindInMarks .Gt b = false := by rfl) : PF J true (.Compare a [.Gt] [b] pos) (sBin gGt fa fb) := pf_cmp op_gt opd_B ha hb hm
theorem pf_ge (ha : PF J s1 a fa) (hb : PF J s2 b fb) (hm : behindInMarks .GtE b = false := by rfl) : PF J true (.Compare a [.GtE] [b] pos) (sBin gGe fa fb) := pf_cmp op_ge opd_B ha hb hm
theorem pt_eq (hr : Room k J.X.A) (ha : PF J s1 a fa) (hb : PF J s2 b fb) (hm : behindInMarks .Eq b = false := by rfl) : PFT J (.Compare a [.Eq] [b] pos) (sTst (sBin gEq fa fb)) := pt_cmp' (op_eqA (hu64 hr)) opd_eq ha hb hm
theorem pt_ne (hr : Room k J.X.A) (ha : PF J s1 a fa) (hb : PF J s2 b fb) (hm : behindInMarks .NotEq b = false := by rfl) : PFT J (.Compare a [.NotEq] [b] pos) (sTst (sBin gNe fa fb)) := pt_cmp' (op_neA (hu64 hr)) opd_ne ha hb hm
theorem pt_lt (ha : PF J s1 a fa) (hb : PF J s2 b fb) (hm : behindInMarks .Lt b = false := by rfl) : PFT J (.Compare a [.Lt] [b] pos) (sTst (sBin gLt fa fb)) := pt_cmp' op_lt opd_B ha hb hm
theorem pt_le (ha : PF J s1 a fa) (hb : PF J s2 b fb) (hm : behindInMarks .LtE b = false := by rfl) : PFT J (.Compare a [.LtE] [b] pos) (sTst (sBin gLe fa fb)) := pt_cmp' op_le opd_B ha hb hm
theorem pt_gt (ha : PF J s1 a fa) (hb : PF J s2 b fb) (hm : behindInMarks .Gt b = false := by rfl) : PFT J (.Compare a [.Gt] [b] pos) (sTst (sBin gGt fa fb)) := pt_cmp' op_gt opd_B ha hb hm
theorem pt_ge (ha : PF J s1 a fa) (hb : PF J s2 b fb) (hm : behindInMarks .GtE b = false := by rfl) : PFT J (.Compare a [.GtE] [b] pos) (sTst (sBin gGe fa fb)) := pt_cmp' op_ge opd_B ha hb hm
theorem pf_inD (hr : Room k J.X.A) (ha : PF J s1 a fa) (hb : PF J s2 b fb) (hm : behindInMarks .In b = false := by rfl) : PF J true (.Compare a [.In] [b] pos) (sBin (gInP false) fa fb) := pf_cmp (op_inD (by have := hr.un; omega)) opd_in ha hb hm
theorem pt_inD (hr : Room k J.X.A) (ha : PF J s1 a fa) (hb : PF J s2 b fb) (hm : behindInMarks .In b = false := by rfl) : PFT J (.Compare a [.In] [b] pos) (sTst (sBin (gInP false) fa fb)) := pt_cmp' (op_inD (by have := hr.un; omega)) opd_in ha hb hm
theorem pt_notInD (hr : Room k J.X.A) (ha : PF J s1 a fa) (hb : PF J s2 b fb) (hm : behindInMarks .NotIn b = false := by rfl) : PFT J (.Compare a [.NotIn] [b] pos) (sTst (sBin (gInP true) fa fb)) := pt_cmp' (op_notInD (by have := hr.un; omega)) opd_notIn ha hb hm
/-- x is None -/
def gIsN (ng : Bool) : G2 := fun S x y => if isNon y then .ok (.bl (if ng then !isNon x else isNon x)) S else .stk
theorem opd_isN : OpD J (fun x y H Q => y = .non ∧ Q (.bl (decide (x = .non))) H) (gIsN false) := by
  intro ω env S σ H x y v u Q s rx ry h
  unfold gIsN at h
  split at h
  · rename_i hy
    have e := isNon_rep s ry
    rw [hy] at e
    refine ⟨of_decide_eq_true e, ?_⟩
    rw [isNon_rep s rx]
    exact fin_bl s h
  · exact h.elim
theorem pf_isN (ha : PF J s1 a fa) (hb : PF J s2 b fb) (hm : behindInMarks .Is b = false := by rfl) : PF J true (.Compare a [.Is] [b] pos) (sBin (gIsN false) fa fb) := pf_cmp op_isN opd_isN ha hb hm
theorem pt_isN (ha : PF J s1 a fa) (hb : PF J s2 b fb) (hm : behindInMarks .Is b = false := by rfl) : PFT J (.Compare a [.Is] [b] pos) (sTst (sBin (gIsN false) fa fb)) := pt_cmp' op_isN opd_isN ha hb hm
theorem pf_repr {e : Expr} {f : SA} {st : Bool} {p : Pos} (gd : J.X.A.guards = some []) (hr : Room k J.X.A) (hm : J.X.mg "repr" = none) (ha : PFA J st [e] f) (hg : Gl J.X "repr" := by rfl) (he : starEach [e] J.X.env = (false, eval e J.X.env) :: starEach [] J.X.env := by rfl) : PF J true (.Call (.Name "repr" p) [e] [] pos) (sB gRepr f) :=
  pf_callB (call_reprA gd (hu66 hr)) cd_repr hm ha hg (by decide +kernel) (by decide) (by decide) he
end
end PF

/-! PF, part n: facts of the written part, as one Bool. -/
namespace PF
open PySem L2 PySem.Spec PyProof.Rows He
theorem lk_mem {α β : Type} [BEq α] [LawfulBEq α] {a : α} {b : β} : ∀ {l : List (α × β)}, l.lookup a = some b → (a, b) ∈ l
  | [], h => by cases h
  | (c, d) :: r, h => by
    rw [List.lookup_cons] at h
    cases e : a == c with
    | true => rw [e] at h; cases h; rw [eq_of_beq e]; exact List.mem_cons_self ..
    | false => rw [e] at h; exact List.mem_cons_of_mem _ (lk_mem h)
def gloB (K : PySem.W.Frag) (x : Str) : Bool := (Fa.glo x).ok K
def freeB (K : PySem.W.Frag) (x : Str) : Bool := (Fa.free x).ok K
def oB (a b : Option Bool) : Bool := decide (a = b)
def vB (a b : Option Value) : Bool := decide (a = b)
def veT : List Value := [.type "ValueError", .type "Exception", .type "BaseException", .type "object"]
def leT : List Value := [.type "LookupError", .type "Exception", .type "BaseException", .type "object"]
def xlookB (K : PySem.W.Frag) (C : Addr) : Bool := match K.lookup C with
  | some ⟨.type "type", _, .cls cd, sl⟩ => (match cd.mro, sl.toList with
    | .ref C' :: bm, [_, _, _, _, some (.builtin n), _] => decide (C' = C) && (cd.hasDict && (!cd.hasDel && ((decide (n = "ValueError.__new__") && overT veT bm) || (decide (n = "LookupError.__new__") && overT leT bm))))
    | _, _ => false)
  | _ => false
def xcB (K : PySem.W.Frag) (C : Addr) : Bool :=
  xlookB K C && (eqO (PySem.W.findIn K (.ref C) "__setattr__") (some (some (.builtin "object.__setattr__"))) && (eqO (PySem.W.findIn K (.ref C) "__getattribute__") (some (some (.builtin "BaseException.__getattribute__"))) &&
  (eqO (PySem.W.findIn K (.ref C) "__getattr__") (some none) && (oB (PySem.W.subIn K (.ref C) (.type "BaseException")) (some true) && (vB (PySem.W.typeIn K (.ref C)) (some (.type "type")) && (PySem.W.keepIn K (.ref C) && (PySem.W.hasDictIn K C &&
  (eqO (PySem.W.findIn K (.ref C) "__class__") (some (some (.builtin "object.__class__"))) && (eqO (PySem.W.specialIn K (.builtin "object.__class__") "__get__") (some (some (.builtin "getset_descriptor.__get__"))) &&
  (oB (PySem.W.takesIn K (.builtin "object.__class__")) (some true) && oB (PySem.W.mroIn K C (.type "object")) (some true)))))))))))
theorem xlook_ok {K : PySem.W.Frag} {C : Addr} (h : xlookB K C = true) : ∃ nm q N bs bm sn sub ab col dd k0 k1 k2 k3 k5 B newId initId bmB, XBase B newId initId bmB ∧ K.lookup C = some (excClassObj nm q C N bs bm true sn sub ab col dd k0 k1 k2 k3 k5 newId) ∧ overT bmB bm = true := by
  unfold xlookB at h
  split at h
  · rename_i dd cd sl ho
    split at h
    · rename_i C' bm k0 k1 k2 k3 n k5 hm hs
      obtain ⟨h1, h⟩ := ba h
      obtain ⟨h2, h⟩ := ba h
      obtain ⟨h3, h4⟩ := ba h
      have e1 := of_decide_eq_true h1
      subst e1
      obtain ⟨nm, bs, mro, ns, qn, hd, sn, sub, ab, col, del⟩ := cd
      dsimp only at hm h2 h3
      subst hm h2
      have h3' : del = false := by simpa using h3
      subst h3'
      have hsl : sl = #[k0, k1, k2, k3, some (.builtin n), k5] := by
        obtain ⟨l⟩ := sl
        simp only at hs
        rw [hs]
      subst hsl
      rcases Bool.or_eq_true_iff.mp h4 with h4 | h4
      · obtain ⟨a, b⟩ := ba h4
        have en := of_decide_eq_true a
        subst en
        exact ⟨nm, qn, ns, bs, bm, sn, sub, ab, col, dd, k0, k1, k2, k3, k5, _, _, _, _, xbVE, ho, b⟩
      · obtain ⟨a, b⟩ := ba h4
        have en := of_decide_eq_true a
        subst en
        exact ⟨nm, qn, ns, bs, bm, sn, sub, ab, col, dd, k0, k1, k2, k3, k5, _, _, _, _, xbLE, ho, b⟩
    · cases h
  · cases h
theorem xc_ok {K : PySem.W.Frag} {C : Addr} (h : xcB K C = true) : XC K C := by
  obtain ⟨h0, h⟩ := ba h
  obtain ⟨h1, h⟩ := ba h
  obtain ⟨h2, h⟩ := ba h
  obtain ⟨h3, h⟩ := ba h
  obtain ⟨h4, h⟩ := ba h
  obtain ⟨h5, h⟩ := ba h
  obtain ⟨h6, h⟩ := ba h
  obtain ⟨h7, h⟩ := ba h
  obtain ⟨h8, h⟩ := ba h
  obtain ⟨h9, h⟩ := ba h
  obtain ⟨h10, h11⟩ := ba h
  exact ⟨xlook_ok h0, eqO_ok h1, eqO_ok h2, eqO_ok h3, of_decide_eq_true h4, of_decide_eq_true h5, h6, h7, eqO_ok h8, eqO_ok h9, of_decide_eq_true h10, of_decide_eq_true h11⟩
def insB (K : PySem.W.Frag) (C : Addr) : Bool :=
  PySem.W.plainGet K C Str.empty && (PySem.W.hasDictIn K C && (PySem.W.plainOver K C && (eqO (PySem.W.findIn K (.ref C) "__setattr__") (some (some (.builtin "object.__setattr__"))) &&
  (eqO (PySem.W.findIn K (.ref C) "__class__") (some (some (.builtin "object.__class__"))) && (eqO (PySem.W.specialIn K (.builtin "object.__class__") "__get__") (some (some (.builtin "getset_descriptor.__get__"))) &&
  (oB (PySem.W.takesIn K (.builtin "object.__class__")) (some true) && oB (PySem.W.mroIn K C (.type "object")) (some true)))))))
theorem ins_ok {K : PySem.W.Frag} {C : Addr} (h : insB K C = true) : InsC K C := by
  obtain ⟨h1, h⟩ := ba h
  obtain ⟨h2, h⟩ := ba h
  obtain ⟨h3, h⟩ := ba h
  obtain ⟨h4, h⟩ := ba h
  obtain ⟨h5, h⟩ := ba h
  obtain ⟨h6, h⟩ := ba h
  obtain ⟨h7, h8⟩ := ba h
  exact ⟨⟨h1, h2, h3, eqO_ok h4⟩, eqO_ok h5, eqO_ok h6, of_decide_eq_true h7, of_decide_eq_true h8⟩
def btys : List (Str × String) := [("NoneType", "NoneType"), ("bool", "bool"), ("int", "int"), ("str", "str"), ("tuple", "tuple"), ("list", "list"), ("dict", "dict")]
def tyE (K : PySem.W.Frag) (x : Str) (cv : Value) (p : Str × List Str) : Bool := match btys.lookup p.1 with
  | some n => freeB K p.1 && oB (PySem.W.kitOne K (.type n) cv) (some (p.2.contains x))
  | none => gloB K p.1 && oB (PySem.W.kitOne K (.ref (ga K p.1)) cv) (some (p.2.contains x))
def isB (K : PySem.W.Frag) (mb mx : List (Str × List Str)) (x : Str) (cv : Value) : Bool := mb.all (tyE K x cv) && mx.all (tyE K x cv)
section
variable {K : PySem.W.Frag} {h : Heap} {mg : Str → Option Value} (X : K.In h) (G : h.Ns mainGlobals mg)
include X G
theorem glo_mg {x : Str} (c : gloB K x = true) : mg x = some (.ref (ga K x)) := glo_ok X G c
theorem free_mg {x : Str} (c : freeB K x = true) : mg x = none := free_ok X G c
theorem is_ok {mb mx : List (Str × List Str)} {x : Str} {cv : Value} (c : isB K mb mx x cv = true) : IsOk K mg mb mx x cv := by
  obtain ⟨c1, c2⟩ := ba c
  refine ⟨fun t l τ ht hl => ?_⟩
  have e : tyE K x cv (t, l) = true := by
    rcases hl with hl | hl
    · exact List.all_eq_true.mp c1 _ (lk_mem hl)
    · exact List.all_eq_true.mp c2 _ (lk_mem hl)
  unfold tyE at e
  dsimp only at e
  cases ht with
  | non => exact of_decide_eq_true (ba (a := freeB K "NoneType") e).2
  | bl => exact of_decide_eq_true (ba (a := freeB K "bool") e).2
  | int => exact of_decide_eq_true (ba (a := freeB K "int") e).2
  | str => exact of_decide_eq_true (ba (a := freeB K "str") e).2
  | tup => exact of_decide_eq_true (ba (a := freeB K "tuple") e).2
  | lst => exact of_decide_eq_true (ba (a := freeB K "list") e).2
  | dct => exact of_decide_eq_true (ba (a := freeB K "dict") e).2
  | @own _ C hm =>
    cases hb : btys.lookup t with
    | some n =>
      rw [hb] at e
      have z := free_mg X G (ba e).1
      rw [hm] at z
      cases z
    | none =>
      rw [hb] at e
      have z := glo_mg X G (ba e).1
      rw [hm] at z
      cases z
      exact of_decide_eq_true (ba e).2
theorem clsA_own {mb mx : List (Str × List Str)} {x : Str} (hd : (x == ("__debug__" : Str)) = false) (g : gloB K x = true) (c : isB K mb mx x (.ref (ga K x)) = true) : ClsA K mg mb mx x :=
  ⟨.ref (ga K x), .ref (ga K x), ⟨hd, .inl (glo_mg X G g)⟩, .own _, is_ok X G c⟩
theorem clsA_blt {mb mx : List (Str × List Str)} {x : Str} {n : String} (hd : (x == ("__debug__" : Str)) = false) (g : freeB K x = true) (hb : bootBuiltins x = some (.type n)) (hn : x ≠ "__name__") (c : isB K mb mx x (.type n) = true) : ClsA K mg mb mx x :=
  ⟨.type n, .ty n, ⟨hd, .inr ⟨free_mg X G g, hb, hn⟩⟩, .ty n, is_ok X G c⟩
def exB (K : PySem.W.Frag) (mx : List (Str × List Str)) (x : Str) : Bool := gloB K x && mx.all fun p => gloB K p.1 && oB (PySem.W.exmOne K (.ref (ga K p.1)) (.ref (ga K x))) (some (p.2.contains x))
theorem ex_ok {mx : List (Str × List Str)} {x : Str} (hd : (x == ("__debug__" : Str)) = false) (c : exB K mx x = true) : ExG K mg mx x := by
  obtain ⟨c0, c1⟩ := ba c
  refine ⟨.ref (ga K x), ⟨hd, .inl (glo_mg X G c0)⟩, ⟨fun t l C hl hm => ?_⟩⟩
  obtain ⟨e1, e2⟩ := ba (List.all_eq_true.mp c1 _ (lk_mem hl))
  have z := glo_mg X G e1
  rw [hm] at z
  cases z
  exact of_decide_eq_true e2
def exbB (K : PySem.W.Frag) (mx : List (Str × List Str)) (x : Str) (n : String) : Bool := freeB K x && mx.all fun p => gloB K p.1 && oB (PySem.W.exmOne K (.ref (ga K p.1)) (.type n)) (some (p.2.contains x))
theorem exb_ok {mx : List (Str × List Str)} {x : Str} {n : String} (hd : (x == ("__debug__" : Str)) = false) (hb : bootBuiltins x = some (.type n)) (hn : x ≠ "__name__") (c : exbB K mx x n = true) : ExG K mg mx x := by
  obtain ⟨c0, c1⟩ := ba c
  refine ⟨.type n, ⟨hd, .inr ⟨free_mg X G c0, hb, hn⟩⟩, ⟨fun t l C hl hm => ?_⟩⟩
  obtain ⟨e1, e2⟩ := ba (List.all_eq_true.mp c1 _ (lk_mem hl))
  have z := glo_mg X G e1
  rw [hm] at z
  cases z
  exact of_decide_eq_true e2
def xfB (K : PySem.W.Frag) (f : Str) (cs : List Str) : Bool := cs.all fun c => gloB K c && (xcB K (ga K c) && eqO (PySem.W.findIn K (.ref (ga K c)) f) (some none))
theorem xf_ok {f : Str} {cs : List Str} (c : xfB K f cs = true) : XfOk K mg f cs := by
  refine ⟨fun x hx C hm => ?_⟩
  obtain ⟨e1, e⟩ := ba (List.all_eq_true.mp c x hx)
  obtain ⟨e2, e3⟩ := ba e
  have z := glo_mg X G e1
  rw [hm] at z
  cases z
  exact ⟨xc_ok e2, eqO_ok e3⟩
def mtB (K : PySem.W.Frag) (mb mx : List (Str × List Str)) : Bool := (mx.all fun p => gloB K p.1 && (xcB K (ga K p.1) && !(p.1 == Str.empty))) && mb.all fun p => match btys.lookup p.1 with
  | some _ => freeB K p.1
  | none => gloB K p.1 && insB K (ga K p.1)
theorem mt_ok {mb mx : List (Str × List Str)} (c : mtB K mb mx = true) : MtOk K mg mb mx := by
  obtain ⟨c1, c2⟩ := ba c
  refine ⟨fun t l C hl hm => ?_, fun t l C hl hm => ?_, ?_⟩
  · obtain ⟨e1, e⟩ := ba (List.all_eq_true.mp c1 _ (lk_mem hl))
    obtain ⟨e2, e3⟩ := ba e
    have z := glo_mg X G e1
    rw [hm] at z
    cases z
    exact xc_ok e2
  · have e := List.all_eq_true.mp c2 _ (lk_mem hl)
    dsimp only at e
    cases hb : btys.lookup t with
    | some n =>
      rw [hb] at e
      have z := free_mg X G e
      rw [hm] at z
      cases z
    | none =>
      rw [hb] at e
      obtain ⟨e1, e2⟩ := ba e
      have z := glo_mg X G e1
      rw [hm] at z
      cases z
      exact ins_ok e2
  · cases hl : mx.lookup Str.empty with
    | none => rfl
    | some l =>
      obtain ⟨_, e⟩ := ba (List.all_eq_true.mp c1 _ (lk_mem hl))
      obtain ⟨_, e3⟩ := ba e
      simp at e3
def inB (K : PySem.W.Frag) (c : Str) (fs : List Str) : Bool := gloB K c && (xcB K (ga K c) && (eqO (PySem.W.findIn K (.ref (ga K c)) "__init__") (some (some (.ref (ma K (ga K c) "__init__")))) && (vB (PySem.W.typeIn K (.ref (ma K (ga K c) "__init__"))) (some (.type "function")) && fs.all fun f => eqO (PySem.W.findIn K (.ref (ga K c)) f) (some none))))
structure InOk (K : PySem.W.Frag) (mg : Str → Option Value) (c : Str) (fs : List Str) : Prop where
  xc : XC K (ga K c)
  mg : mg c = some (.ref (ga K c))
  iC : PySem.W.findIn K (.ref (ga K c)) "__init__" = some (some (.ref (ma K (ga K c) "__init__")))
  tI : PySem.W.typeIn K (.ref (ma K (ga K c) "__init__")) = some (.type "function")
  no : ∀ f ∈ fs, PySem.W.findIn K (.ref (ga K c)) f = some none
theorem in_ok {c : Str} {fs : List Str} (b : inB K c fs = true) : InOk K mg c fs := by
  obtain ⟨b1, b⟩ := ba b
  obtain ⟨b2, b⟩ := ba b
  obtain ⟨b3, b⟩ := ba b
  obtain ⟨b4, b5⟩ := ba b
  exact ⟨xc_ok b2, glo_mg X G b1, eqO_ok b3, of_decide_eq_true b4, fun f hf => eqO_ok (List.all_eq_true.mp b5 f hf)⟩
def x0B (K : PySem.W.Frag) (c : Str) : Bool := gloB K c && (xcB K (ga K c) && (PySem.W.excIn K (ga K c) veT "ValueError.__new__" || PySem.W.excIn K (ga K c) leT "LookupError.__new__"))
theorem x0_ok {c : Str} (b : x0B K c = true) : XDef0 K mg c := by
  obtain ⟨b1, b⟩ := ba b
  obtain ⟨b2, b3⟩ := ba b
  rcases Bool.or_eq_true_iff.mp b3 with b3 | b3
  · exact ⟨ga K c, _, _, _, _, xc_ok b2, glo_mg X G b1, xbVE.F, b3⟩
  · exact ⟨ga K c, _, _, _, _, xc_ok b2, glo_mg X G b1, xbLE.F, b3⟩
end
/-! ### the end, where the head's facts come by a Hook -/
theorem pf_walkE {l : PySem.W.OpenLaw} {n k : Nat} {q : Program} {loose : List Str} {XP : (Str → Option Value) → Heap → Prop} {YP : World → Heap → Prop} {d : DefRec} {x : Str} {Fl : FD}
    (hn : l.most = some n) (hn2 : n ≤ sizeLine) (hdf : d.params.defaults = []) (hr : Room k callerA)
    (F : ∀ (w : World) (mg : Str → Option Value) (fa : Addr) (h : Heap), YP w h → h.Ns mainGlobals mg → mg d.name = some (.ref fa) →
      ∃ (K : PySem.W.Frag) (fd : FuncData), K.In h ∧ (∀ (s : Shared) (u : Value), BindsTo s fd ⟨[u], []⟩ [(x, u)]) ∧ ∀ base : Heap, K.In base → base.Ns mainGlobals mg → Fg l.prog w K mg base k fa fd [x] (spF ⟨K, mg⟩ 1 Fl))
    (hlaw : LawOk n Fl) : PySem.W.WalkO q loose XP YP l.row.toRowW d [] (fun f vs => PySem.call f vs) := by
  refine Att.attach_callB hn hdf fun w s₀ s₁ mg mb fa o pm cd doc a vs ns G Y ho hd hcd hmg hobj hints hlen hbits hg => ?_
  obtain ⟨K, fd, KX, hb, hF⟩ := F w mg fa _ Y G.T.g hmg
  obtain ⟨S', e⟩ := hlaw ns hlen hbits
  exact law_run KX G.T.g G.T.b G.T.builtins G.T.nolimit hg hobj hints (Nat.le_trans hlen hn2) hr hF hb e
end PF

/-! PF, part s: the readings, evaluated. -/
namespace PF
open PySem L2
section
variable {α : Type} {env env' : En} {S S' S1 S2 : Sto} {f g h : SS} {fe fa fb : SE} {d x y : D}
theorem ev_seq (e : f env S = .nx env' S') : sSeq f g env S = g env' S' := by unfold sSeq; rw [e]
theorem ev_seq_rt (e : f env S = .rt d S') : sSeq f g env S = .rt d S' := by unfold sSeq; rw [e]
theorem ev_seq_ex (e : f env S = .ex d env' S') : sSeq f g env S = .ex d env' S' := by unfold sSeq; rw [e]
theorem ev_set {i : Nat} (e : fe env S = .ok d S') : sSet i fe env S = .nx (env.set i (some (.val d))) S' := by unfold sSet; rw [e]; rfl
theorem ev_ret (e : fe env S = .ok d S') : sRet fe env S = .rt d S' := by unfold sRet; rw [e]; rfl
theorem ev_exp (e : fe env S = .ok d S') : sExp fe env S = .nx env S' := by unfold sExp; rw [e]; rfl
theorem ev_if {c : ST} {b : Bool} (e : c env S = .ok b S') : sIfS c f g env S = if b then f env S' else g env S' := by unfold sIfS; rw [e]; rfl
theorem ev_ifT {c : ST} (e : c env S = .ok true S') : sIfS c f g env S = f env S' := by rw [ev_if e]; rfl
theorem ev_ifF {c : ST} (e : c env S = .ok false S') : sIfS c f g env S = g env S' := by rw [ev_if e]; rfl
theorem ev_bin {o : G2} (a : fa env S = .ok x S1) (b : fb env S1 = .ok y S2) : sBin o fa fb env S = o S2 x y := by unfold sBin; rw [a, R.bind_ok, b]; rfl
theorem ev_op {o : G2} {r : R D} (a : fa env S = .ok x S1) (b : fb env S1 = .ok y S2) (c : o S2 x y = r) : sBin o fa fb env S = r := (ev_bin a b).trans c
theorem ev_b {g : GC} {fs : SA} {ds : List D} {r : R D} (a : fs env S = .ok ds S1) (c : g S1 ds = r) : sB g fs env S = r := by unfold sB; rw [a]; exact c
theorem ev_lst {fs : SA} {ds : List D} (a : fs env S = .ok ds S1) (h : LB ds.length = true) : sLst fs env S = .ok (.lst ds) S1 := by unfold sLst; rw [a, R.bind_ok, if_pos h]
theorem ev_new {fl : SL} {o : MO} (a : fl env S = .ok o S1) : sNew fl env S = .ok (.ref S1.length) (S1 ++ [o]) := by unfold sNew; rw [a]; rfl
theorem ev_val {fl : SL} {o : MO} (a : fl env S = .ok o S1) : sVal fl env S = .ok (moD o) S1 := by unfold sVal; rw [a]; rfl
theorem ev_tst {b : Bool} (e : fe env S = .ok (.bl b) S') : sTst fe env S = .ok b S' := by unfold sTst; rw [e]; rfl
theorem ev_var {i : Nat} (e : env[i]? = some (some (.val d))) : sVar i env S = .ok d S := by unfold sVar; rw [e]
theorem ev_cons {fs : SA} {ds : List D} (a : fa env S = .ok x S1) (b : fs env S1 = .ok ds S2) : sCons fa fs env S = .ok (x :: ds) S2 := by
  unfold sCons; rw [a, R.bind_ok, b]; rfl
theorem ev_call {n m : Nat} {gD : List D → List D → List D} {F : FD} {fs fk : SA} {ds zs : List D} (a : fs env S = .ok ds S1) (b : fk env S1 = .ok zs S2) (h : ds.length = n ∧ zs.length = m) : sCall n m gD F fs fk env S = F (gD ds zs) S2 := by
  unfold sCall; rw [a, R.bind_ok, b, R.bind_ok, if_pos h]
theorem run_rt {N : Nat} {b : SS} {ds : List D} (e : b (env0 N ds) S = .rt d S') : runF N b ds S = .ok d S' := by unfold runF; rw [e]
theorem run_nx {N : Nat} {b : SS} {ds : List D} (e : b (env0 N ds) S = .nx env' S') : runF N b ds S = .ok .non S' := by unfold runF; rw [e]
theorem run_ex {N : Nat} {b : SS} {ds : List D} (e : b (env0 N ds) S = .ex d env' S') : runF N b ds S = .ex d S' := by unfold runF; rw [e]
end
section
variable {S : Sto} {i j : Int}
theorem g_add : gAdd S (.int i) (.int j) = .ok (.int (i + j)) S := rfl
theorem g_sub : gSub S (.int i) (.int j) = .ok (.int (i - j)) S := rfl
theorem g_mod (h : j ≠ 0) : gMod S (.int i) (.int j) = .ok (.int (i.fmod j)) S := by
  show (if cMod i j = true then _ else _) = _
  rw [if_pos (show cMod i j = true from decide_eq_true h)]
theorem g_div (h : j ≠ 0) (h2 : j.natAbs < 1073741824) : gDiv S (.int i) (.int j) = .ok (.int (i.fdiv j)) S := by
  show (if cDiv i j = true then _ else _) = _
  rw [if_pos (by unfold cDiv; rw [decide_eq_true h, decide_eq_true h2]; rfl)]
theorem g_mul (h : cMul i j = true) : gMul S (.int i) (.int j) = .ok (.int (i * j)) S := by
  show (if cMul i j = true then _ else _) = _
  rw [if_pos h]
theorem cMul_l (h : i.natAbs < 18446744073709551616) : cMul i j = true := by unfold cMul; rw [decide_eq_true (by simpa using h)]; rfl
theorem cMul_r (h : j.natAbs < 18446744073709551616) : cMul i j = true := by unfold cMul; rw [decide_eq_true (p := j.natAbs < 2 ^ 64) (by simpa using h)]; simp
theorem g_gt : gGt S (.int i) (.int j) = .ok (.bl (decide (j < i))) S := rfl
theorem g_lt : gLt S (.int i) (.int j) = .ok (.bl (decide (i < j))) S := rfl
theorem g_le : gLe S (.int i) (.int j) = .ok (.bl (decide (i ≤ j))) S := rfl
theorem g_ge : gGe S (.int i) (.int j) = .ok (.bl (decide (j ≤ i))) S := rfl
theorem g_ixr {n : Nat} {xs : List D} {d : D} (h : S[n]? = some (.lst xs)) (e : atI xs i = some d) : gIx S (.ref n) (.int i) = .ok d S := by
  show (match asQ S (.ref n) with | some xs => (match atI xs i with | some d => R.ok d S | none => .stk) | none => .stk) = _
  unfold asQ
  simp only [h, e]
theorem g_ixl {xs : List D} {d : D} (e : atI xs i = some d) : gIx S (.lst xs) (.int i) = .ok d S := by
  show (match atI xs i with | some d => R.ok d S | none => .stk) = _
  rw [e]
theorem g_ixt {xs : List D} {d : D} (e : atI xs i = some d) : gIx S (.tup xs) (.int i) = .ok d S := by
  show (match atI xs i with | some d => R.ok d S | none => .stk) = _
  rw [e]
theorem g_ixs {ns : List Int} {d : D} (e : atI (ns.map D.int) i = some d) : gIx S (.scr ns) (.int i) = .ok d S := by
  show (match atI (ns.map D.int) i with | some d => R.ok d S | none => .stk) = _
  rw [e]
theorem atI_nat' {α : Type} {xs : List α} {i : Nat} {x : α} (h : xs[i]? = some x) : atI xs (i : Int) = some x := by
  have hi : i < xs.length := (List.getElem?_eq_some_iff.mp h).1
  unfold atI ixN
  rw [if_pos (by omega), if_pos (by omega)]
  simpa using h
theorem setS_eq {n : Nat} {xs : List D} {k : Int} {j : Nat} {d : D} (h : S[n]? = some (.lst xs)) (e : ixN xs.length k = some j) : setS S n k d = some (S.set n (.lst (xs.set j d))) := by unfold setS; simp only [h, e]; rfl
theorem ev_setIx {env : En} {S1 S2 S3 S4 : Sto} {fe fo fi : SE} {d : D} {n : Nat} {k : Int} (a : fe env S = .ok d S1) (b : fo env S1 = .ok (.ref n) S2) (c : fi env S2 = .ok (.int k) S3) (e : setS S3 n k d = some S4) : sSetIx fe fo fi env S = .nx env S4 := by
  unfold sSetIx
  rw [a, R.bindO_ok, b, R.bindO_ok, c, R.bindO_ok]
  dsimp only
  rw [e]
end
section
variable {S S1 S2 : Sto} {env : En}
theorem g_repr {d : D} {p : PyData} (h : toP S d = some p) (g : (SeqAt.shaped p && (p.showable && LB p.shown.length)) = true) : gRepr S [d] = .ok (.str p.shown) S := by
  unfold gRepr
  simp only [h]
  rw [if_pos g]
theorem g_eqs {x y : Str} : gEq S (.str x) (.str y) = .ok (.bl (decide (x = y))) S := rfl
theorem g_nes {x y : Str} : gNe S (.str x) (.str y) = .ok (.bl (!decide (x = y))) S := rfl
theorem g_eqi {x y : Int} : gEq S (.int x) (.int y) = .ok (.bl (decide (x = y))) S := rfl
theorem g_nei {x y : Int} : gNe S (.int x) (.int y) = .ok (.bl (!decide (x = y))) S := rfl
theorem ev_append {fo : SE} {fa : SA} {n : Nat} {xs : List D} {d : D} (a : fo env S = .ok (.ref n) S1) (h : S1[n]? = some (.lst xs)) (b : fa env S1 = .ok [d] S2) (h2 : S2[n]? = some (.lst xs)) (hl : xs.length < 1000000) : sAppend fo fa env S = .ok .non (S2.set n (.lst (xs ++ [d]))) := by
  unfold sAppend
  rw [a, R.bind_ok, if_pos (by unfold isLstAt asL; simp only [h]; rfl), b, R.bind_ok]
  unfold gAppend
  simp only [h2]
  rw [if_pos hl]
theorem ev_par {i j : Nat} {fa : SA} {d e : D} (a : fa env S = .ok [d, e] S1) : sPar i j fa env S = .nx ((env.set i (some (.val d))).set j (some (.val e))) S1 := by unfold sPar; rw [a]; rfl
theorem ev_andV {f g : SE} {r : R D} (a : f env S = .ok (.bl true) S1) (b : g env S1 = r) : sAndV f g env S = r := by unfold sAndV; rw [a]; exact b
theorem ev_isi {mb mx : List (Str × List Str)} {cs l : List Str} {fe : SE} {d : D} (a : fe env S = .ok d S1) (h : lin mb mx S1 d = some l) : sIsi mb mx cs fe env S = .ok (.bl (cs.any fun x => l.contains x)) S1 := by unfold sIsi; rw [a, R.bind_ok, h]
theorem toPs_cons {rf : Nat → Option PyData} {d : D} {ds : List D} {p : PyData} {ps : List PyData} (h : toPR rf d = some p) (k : toPsR rf ds = some ps) : toPsR rf (d :: ds) = some (p :: ps) := by rw [toPsR, h, k]
theorem toP_lst {rf : Nat → Option PyData} {ds : List D} {ps : List PyData} (k : toPsR rf ds = some ps) : toPR rf (.lst ds) = some (.list ps) := by rw [toPR, k]; rfl
theorem rf_lst {k n : Nat} {ds : List D} {ps : List PyData} (h : S[n]? = some (.lst ds)) (e : toPsR (rfN S k) ds = some ps) : rfN S (k + 1) n = some (.list ps) := by
  unfold rfN
  simp only [h, e]
  rfl
theorem toPs_rep {rf : Nat → Option PyData} {d : D} {p : PyData} (h : toPR rf d = some p) : ∀ n, toPsR rf (List.replicate n d) = some (List.replicate n p)
  | 0 => rfl
  | n + 1 => by rw [List.replicate_succ, List.replicate_succ]; exact toPs_cons h (toPs_rep h n)
end
section
variable {g : SG} {body : SS} {d : D} {ds : List D} {env e1 e2 : En} {S S' : Sto}
theorem forS_nx (h : g d env = some e1) (hb : body e1 S = .nx e2 S') : forS g body (d :: ds) env S = forS g body ds e2 S' := by
  rw [forS, h]
  simp only [hb]
theorem forS_ct (h : g d env = some e1) (hb : body e1 S = .ct e2 S') : forS g body (d :: ds) env S = forS g body ds e2 S' := by
  rw [forS, h]
  simp only [hb]
theorem forS_bk (h : g d env = some e1) (hb : body e1 S = .bk e2 S') : forS g body (d :: ds) env S = .nx e2 S' := by
  rw [forS, h]
  simp only [hb]
theorem forS_rt {v : D} (h : g d env = some e1) (hb : body e1 S = .rt v S') : forS g body (d :: ds) env S = .rt v S' := by
  rw [forS, h]
  simp only [hb]
theorem forS_ex {v : D} (h : g d env = some e1) (hb : body e1 S = .ex v e2 S') : forS g body (d :: ds) env S = .ex v e2 S' := by
  rw [forS, h]
  simp only [hb]
theorem ev_for {fi : SI} {xs : List D} {o : O} (h : fi env S = .ok xs S') (k : forS g body xs env S' = o) : sFor fi g body env S = o := by unfold sFor; rw [h]; exact k
theorem rng_eq (n : Nat) : rng 0 n = (List.range' 0 n).map fun (i : Nat) => D.int (i : Int) := by
  unfold rng
  rw [List.range_eq_range']
  exact List.map_congr_left fun i _ => by rw [Int.zero_add]
theorem ev_rng1 {f : SA} {n : Nat} (h : f env S = .ok [.int n] S') (hn : n < 4611686018427387904) : sRng1 f env S = .ok ((List.range' 0 n).map fun (i : Nat) => D.int (i : Int)) S' := by
  unfold sRng1
  rw [h, R.bind_ok]
  dsimp only
  rw [if_pos ⟨by omega, by omega⟩, Int.toNat_natCast, rng_eq]
end
end PF

namespace K07
open PySem PySem.Spec PyProof.Rows L2 PF
abbrev prg : Program := PySem.Challenge.pw_flockround_k07_exceptions_and_their_attr
def top (i : Nat) : Stmt := prg.main.body.getD i (.Pass ⟨0, 0, 0, 0⟩)
def mx : List (Str × List Str) := [("FlockError", ["FlockError", "ValueError", "Exception", "BaseException", "object"]), ("MissingError", ["MissingError", "LookupError", "Exception", "BaseException", "object"]), ("InvalidState", ["InvalidState", "FlockError", "ValueError", "Exception", "BaseException", "object"]), ("InvalidPartCount", ["InvalidPartCount", "FlockError", "ValueError", "Exception", "BaseException", "object"]), ("StateMismatch", ["StateMismatch", "FlockError", "ValueError", "Exception", "BaseException", "object"]), ("InvalidCertificate", ["InvalidCertificate", "FlockError", "ValueError", "Exception", "BaseException", "object"]), ("CycleError", ["CycleError", "FlockError", "ValueError", "Exception", "BaseException", "object"]), ("InvalidAction", ["InvalidAction", "FlockError", "ValueError", "Exception", "BaseException", "object"]), ("ParseError", ["ParseError", "FlockError", "ValueError", "Exception", "BaseException", "object"]), ("UnknownCommand", ["UnknownCommand", "FlockError", "ValueError", "Exception", "BaseException", "object"]), ("UndoError", ["UndoError", "MissingError", "LookupError", "Exception", "BaseException", "object"])]
def mb : List (Str × List Str) := [("NoneType", ["NoneType", "object"]), ("bool", ["bool", "int", "object"]), ("int", ["int", "object"]), ("str", ["str", "object"]), ("tuple", ["tuple", "object"]), ("list", ["list", "object"]), ("dict", ["dict", "object"])]
def xfC_command : List Str := ["UnknownCommand"]
def xfC_count : List Str := ["UndoError"]
def xfC_index : List Str := ["InvalidCertificate"]
def xfC_line : List Str := ["ParseError"]
def xfC_reason : List Str := ["StateMismatch", "InvalidCertificate", "CycleError", "InvalidAction"]
def xfC_value : List Str := ["InvalidPartCount"]
def xfC_word : List Str := ["ParseError"]
abbrev s__law_stream : Stmt := (top 13)
abbrev n__law_stream : List Str := ["_law_script", "_law_position", "_law_cell", "_law_large"]
theorem sc__law_stream : FnScope n__law_stream ["_law_script", "_law_position"] (defScope s__law_stream) := ⟨rfl, rfl, rfl, by decide +kernel, rfl, by decide +kernel, by decide +kernel⟩
def b__law_stream : SS := (sSeq (sSet 2 (sC (.int 0)))
  (sSeq (sIfS (sTst (sBin gLt (sVar 1) (sB gLen (sCons (sVar 0) sNil))))
  (sSet 2 (sBin gIx (sVar 0) (sVar 1)))
  sNx)
  (sSeq (sSet 3 (sB gAbs (sCons (sVar 2) sNil)))
  (sSeq (sIfS (sTst (sBin gLt (sVar 3) (sBin gPow (sC (.int 10)) (sC (.int 18)))))
  (sSet 3 (sC (.int 0)))
  sNx)
  (sRet (sNew (sLst (sCons (sVar 3) (sCons (sBin gMod (sBin gAdd (sBin gAdd (sBin gMul (sBin gMod (sVar 2) (sC (.int 2147483399))) (sC (.int 40503))) (sBin gMul (sC (.int 52021)) (sVar 1))) (sC (.int 71))) (sC (.int 2147483399))) (sCons (sC (.int 0)) sNil))))))))))
def f__law_stream : FD := runF 4 b__law_stream
abbrev s__law_draw : Stmt := (top 14)
abbrev n__law_draw : List Str := ["_law_stream_here", "_law_limit", "_law_digit", "_law_turns", "_law_mixed"]
theorem sc__law_draw : FnScope n__law_draw ["_law_stream_here", "_law_limit"] (defScope s__law_draw) := ⟨rfl, rfl, rfl, by decide +kernel, rfl, by decide +kernel, by decide +kernel⟩
def b__law_draw : SS := (sSeq (sIfS (sTst (sBin gGt (sBin gIx (sVar 0) (sC (.int 0))) (sC (.int 0))))
  (sSeq (sSet 2 (sBin gMod (sBin gIx (sVar 0) (sC (.int 0))) (sVar 1)))
  (sSeq (sSetIx (sBin gDiv (sBin gIx (sVar 0) (sC (.int 0))) (sVar 1)) (sVar 0) (sC (.int 0)))
  (sRet (sVar 2))))
  sNx)
  (sSeq (sSet 3 (sBin gAdd (sBin gIx (sVar 0) (sC (.int 2))) (sC (.int 1))))
  (sSeq (sSetIx (sVar 3) (sVar 0) (sC (.int 2)))
  (sSeq (sSet 4 (sBin gMod (sBin gAdd (sBin gAdd (sBin gIx (sVar 0) (sC (.int 1))) (sBin gMul (sBin gMul (sC (.int 26339)) (sVar 3)) (sVar 3))) (sBin gMul (sC (.int 90001)) (sVar 3))) (sC (.int 2147483647))))
  (sSeq (sSet 4 (sBin gMod (sBin gAdd (sBin gAdd (sBin gMul (sVar 4) (sVar 4)) (sBin gMul (sC (.int 50021)) (sVar 4))) (sVar 3)) (sC (.int 2147483587))))
  (sSeq (sSet 4 (sBin gMod (sBin gAdd (sBin gMul (sVar 4) (sVar 4)) (sBin gMul (sC (.int 30011)) (sVar 4))) (sC (.int 2147483563))))
  (sRet (sBin gMod (sBin gDiv (sVar 4) (sC (.int 32))) (sVar 1)))))))))
def f__law_draw : FD := runF 5 b__law_draw
abbrev s__law_entry : Stmt := (top 15)
abbrev n__law_entry : List Str := ["_law_stream_here", "_law_number", "_law_values"]
theorem sc__law_entry : FnScope n__law_entry ["_law_stream_here"] (defScope s__law_entry) := ⟨rfl, rfl, rfl, by decide +kernel, rfl, by decide +kernel, by decide +kernel⟩
def b__law_entry : SS := (sSeq (sSet 1 (sBin gIx (sVal (sLst (sCons (sC (.int 0)) (sCons (sC (.int 7)) (sCons (sBin gSub (sC (.int 0)) (sC (.int 3))) (sCons (sBin gPow (sC (.int 10)) (sC (.int 60))) sNil)))))) (sCall 2 0 (gdP [0, 1] []) f__law_draw (sCons (sVar 0) (sCons (sC (.int 4)) sNil)) sNil)))
  (sSeq (sSet 2 (sVal (sLst (sCons (sVar 1) (sCons (sB gStr (sCons (sVar 1) sNil)) (sCons (sTup (sCons (sVar 1) (sCons (sC (.str "a")) sNil))) (sCons (sC .non) (sCons (sBin gEq (sVar 1) (sC (.int 7))) (sCons (sC (.str "")) (sCons (sTup sNil) (sCons (sNew (sLst (sCons (sVar 1) (sCons (sVal (sLst (sCons (sC (.str "b")) sNil))) sNil)))) (sCons (sTup (sCons (sC (.str "a")) (sCons (sTup (sCons (sC (.str "b")) (sCons (sVar 1) sNil))) sNil))) sNil))))))))))))
  (sRet (sBin gIx (sVar 2) (sCall 2 0 (gdP [0, 1] []) f__law_draw (sCons (sVar 0) (sCons (sC (.int 9)) sNil)) sNil)))))
def f__law_entry : FD := runF 3 b__law_entry
abbrev s__law_classes : Stmt := (top 16)
abbrev n__law_classes : List Str := ["_law_error", "_law_flags"]
theorem sc__law_classes : FnScope n__law_classes ["_law_error"] (defScope s__law_classes) := ⟨rfl, rfl, rfl, by decide +kernel, rfl, by decide +kernel, by decide +kernel⟩
def b__law_classes : SS := (sSeq (sSet 1 (sVal (sLst (sCons (sIsi mb mx ["InvalidState"] (sVar 0)) (sCons (sIsi mb mx ["InvalidPartCount"] (sVar 0)) (sCons (sIsi mb mx ["StateMismatch"] (sVar 0)) sNil))))))
  (sSeq (sSet 1 (sBin gAdd (sVar 1) (sVal (sLst (sCons (sIsi mb mx ["InvalidCertificate"] (sVar 0)) (sCons (sIsi mb mx ["CycleError"] (sVar 0)) sNil))))))
  (sSeq (sSet 1 (sBin gAdd (sVar 1) (sVal (sLst (sCons (sIsi mb mx ["InvalidAction"] (sVar 0)) (sCons (sIsi mb mx ["ParseError"] (sVar 0)) sNil))))))
  (sRet (sBin gAdd (sVar 1) (sVal (sLst (sCons (sIsi mb mx ["UnknownCommand"] (sVar 0)) (sCons (sIsi mb mx ["UndoError"] (sVar 0)) sNil)))))))))
def f__law_classes : FD := runF 2 b__law_classes
abbrev s__law_caught : Stmt := (top 17)
abbrev n__law_caught : List Str := ["_law_entry_here", "_law_caught_here", "_law_error"]
theorem sc__law_caught : FnScope n__law_caught ["_law_entry_here"] (defScope s__law_caught) := ⟨rfl, rfl, rfl, by decide +kernel, rfl, by decide +kernel, by decide +kernel⟩
def b__law_caught : SS := (sSeq (sSet 1 (sNew (sLst sNil)))
  (sSeq (sTry (sRaise (sMk "InvalidAction" 1 0 ["reason"] (gdX [0]) (sCons (sVar 0) sNil) sNil)) (hAs (hitD mx ["FlockError"]) 2 (sExp (sAppend (sVar 1) (sCons (sXf "reason" xfC_reason (sVar 2)) sNil))) hNil))
  (sSeq (sTry (sRaise (sMk "UndoError" 1 0 ["count"] (gdX [0]) (sCons (sVar 0) sNil) sNil)) (hAs (hitD mx ["MissingError"]) 2 (sExp (sAppend (sVar 1) (sCons (sXf "count" xfC_count (sVar 2)) sNil))) hNil))
  (sRet (sVar 1)))))
def f__law_caught : FD := runF 3 b__law_caught
abbrev s__law_attributes_hold : Stmt := (top 18)
abbrev n__law_attributes_hold : List Str := ["_law_entry_here", "_law_other", "_law_held"]
theorem sc__law_attributes_hold : FnScope n__law_attributes_hold ["_law_entry_here", "_law_other"] (defScope s__law_attributes_hold) := ⟨rfl, rfl, rfl, by decide +kernel, rfl, by decide +kernel, by decide +kernel⟩
def b__law_attributes_hold : SS := (sSeq (sSet 2 (sVal (sLst (sCons (sXf "value" xfC_value (sMk "InvalidPartCount" 1 0 ["value"] (gdX [0]) (sCons (sVar 0) sNil) sNil)) (sCons (sXf "reason" xfC_reason (sMk "StateMismatch" 1 0 ["reason"] (gdX [0]) (sCons (sVar 0) sNil) sNil)) (sCons (sXf "reason" xfC_reason (sMk "CycleError" 1 0 ["reason"] (gdX [0]) (sCons (sVar 0) sNil) sNil)) sNil))))))
  (sSeq (sSet 2 (sBin gAdd (sVar 2) (sVal (sLst (sCons (sXf "reason" xfC_reason (sMk "InvalidAction" 1 0 ["reason"] (gdX [0]) (sCons (sVar 0) sNil) sNil)) (sCons (sXf "command" xfC_command (sMk "UnknownCommand" 1 0 ["command"] (gdX [0]) (sCons (sVar 0) sNil) sNil)) (sCons (sXf "count" xfC_count (sMk "UndoError" 1 0 ["count"] (gdX [0]) (sCons (sVar 0) sNil) sNil)) sNil)))))))
  (sSeq (sSet 2 (sBin gAdd (sVar 2) (sVal (sLst (sCons (sXf "reason" xfC_reason (sMk "InvalidCertificate" 2 0 ["index", "reason"] (gdX (if false then [0, 1] else [1, 0])) (sCons (sVar 0) (sCons (sVar 1) sNil)) sNil)) (sCons (sXf "index" xfC_index (sMk "InvalidCertificate" 2 0 ["index", "reason"] (gdX (if false then [0, 1] else [1, 0])) (sCons (sVar 1) (sCons (sVar 0) sNil)) sNil)) sNil))))))
  (sSeq (sSet 2 (sBin gAdd (sVar 2) (sVal (sLst (sCons (sXf "line" xfC_line (sMk "ParseError" 2 0 ["word", "line"] (gdX (if false then [0, 1] else [1, 0])) (sCons (sVar 0) (sCons (sVar 1) sNil)) sNil)) (sCons (sXf "word" xfC_word (sMk "ParseError" 2 0 ["word", "line"] (gdX (if false then [0, 1] else [1, 0])) (sCons (sVar 1) (sCons (sVar 0) sNil)) sNil)) sNil))))))
  (sSeq (sSet 2 (sBin gAdd (sVar 2) (sVal (sLst (sCons (sXf "index" xfC_index (sMk "InvalidCertificate" 0 2 ["index", "reason"] (gdX (if true then [0, 1] else [1, 0])) sNil (sCons (sVar 0) (sCons (sVar 1) sNil)))) (sCons (sXf "word" xfC_word (sMk "ParseError" 0 2 ["word", "line"] (gdX (if true then [0, 1] else [1, 0])) sNil (sCons (sVar 0) (sCons (sVar 1) sNil)))) sNil))))))
  (sSeq (sSet 2 (sBin gAdd (sVar 2) (sVal (sLst (sCons (sXf "value" xfC_value (sMk "InvalidPartCount" 0 1 ["value"] (gdX [0]) sNil (sCons (sVar 0) sNil))) (sCons (sXf "reason" xfC_reason (sMk "StateMismatch" 0 1 ["reason"] (gdX [0]) sNil (sCons (sVar 0) sNil))) sNil))))))
  (sSeq (sSet 2 (sBin gAdd (sVar 2) (sVal (sLst (sCons (sXf "command" xfC_command (sMk "UnknownCommand" 0 1 ["command"] (gdX [0]) sNil (sCons (sVar 0) sNil))) (sCons (sXf "count" xfC_count (sMk "UndoError" 0 1 ["count"] (gdX [0]) sNil (sCons (sVar 0) sNil))) sNil))))))
  (sSeq (sSet 2 (sBin gAdd (sVar 2) (sVal (sLst (sCons (sXf "reason" xfC_reason (sMk "CycleError" 0 1 ["reason"] (gdX [0]) sNil (sCons (sVar 0) sNil))) (sCons (sXf "reason" xfC_reason (sMk "InvalidAction" 0 1 ["reason"] (gdX [0]) sNil (sCons (sVar 0) sNil))) sNil))))))
  (sSeq (sIfS (sTst (sBin gNe (sB gRepr (sCons (sVar 2) sNil)) (sB gRepr (sCons (sBin gMul (sVal (sLst (sCons (sVar 0) sNil))) (sC (.int 18))) sNil))))
  (sRet (sC (.bl false)))
  sNx)
  (sSeq (sIfS (sTst (sIsi mb mx ["list"] (sVar 0)))
  (sExp (sAppend (sVar 0) (sCons (sC (.str "more")) sNil)))
  sNx)
  (sRet (sBin gEq (sB gRepr (sCons (sVar 2) sNil)) (sB gRepr (sCons (sBin gMul (sVal (sLst (sCons (sVar 0) sNil))) (sC (.int 18))) sNil))))))))))))))
def f__law_attributes_hold : FD := runF 3 b__law_attributes_hold
abbrev s__law_trial : Stmt := (top 19)
abbrev n__law_trial : List Str := ["_law_stream_here", "_law_entry_here", "_law_other", "_law_errors", "_law_place", "_law_error", "_law_flags"]
theorem sc__law_trial : FnScope n__law_trial ["_law_stream_here"] (defScope s__law_trial) := ⟨rfl, rfl, rfl, by decide +kernel, rfl, by decide +kernel, by decide +kernel⟩
def B1__law_trial : SS := (sSeq (sSet 6 (sCall 1 0 (gdP [0] []) f__law_classes (sCons (sVar 5) sNil) sNil))
  (sSeq (sIfS (sOrT (sTst (sBin gNe (sCount (sVar 6) (sCons (sC (.bl true)) sNil)) (sC (.int 1)))) (sNotT (sTst (sBin gIx (sVar 6) (sVar 4)))))
  (sRet (sC (.bl false)))
  sNx)
  (sSeq (sIfS (sOrT (sTst (sBin gNe (sIsi mb mx ["FlockError"] (sVar 5)) (sBin gLt (sVar 4) (sC (.int 8))))) (sTst (sBin gNe (sIsi mb mx ["ValueError"] (sVar 5)) (sBin gLt (sVar 4) (sC (.int 8))))))
  (sRet (sC (.bl false)))
  sNx)
  (sSeq (sIfS (sOrT (sTst (sBin gEq (sIsi mb mx ["MissingError"] (sVar 5)) (sBin gLt (sVar 4) (sC (.int 8))))) (sTst (sBin gEq (sIsi mb mx ["LookupError"] (sVar 5)) (sBin gLt (sVar 4) (sC (.int 8))))))
  (sRet (sC (.bl false)))
  sNx)
  (sIfS (sTst (sIsi mb mx ["KeyError", "IndexError"] (sVar 5)))
  (sRet (sC (.bl false)))
  sNx)))))
def b__law_trial : SS := (sSeq (sPar 1 2 (sCons (sCall 1 0 (gdP [0] []) f__law_entry (sCons (sVar 0) sNil) sNil) (sCons (sCall 1 0 (gdP [0] []) f__law_entry (sCons (sVar 0) sNil) sNil) sNil)))
  (sSeq (sSet 3 (sVal (sLst (sCons (sMk0 "InvalidState") (sCons (sMk "InvalidPartCount" 1 0 ["value"] (gdX [0]) (sCons (sVar 1) sNil) sNil) (sCons (sMk "StateMismatch" 1 0 ["reason"] (gdX [0]) (sCons (sVar 1) sNil) sNil) (sCons (sMk "InvalidCertificate" 2 0 ["index", "reason"] (gdX (if false then [0, 1] else [1, 0])) (sCons (sVar 1) (sCons (sVar 2) sNil)) sNil) sNil)))))))
  (sSeq (sSet 3 (sBin gAdd (sVar 3) (sVal (sLst (sCons (sMk "CycleError" 1 0 ["reason"] (gdX [0]) (sCons (sVar 1) sNil) sNil) (sCons (sMk "InvalidAction" 1 0 ["reason"] (gdX [0]) (sCons (sVar 1) sNil) sNil) (sCons (sMk "ParseError" 2 0 ["word", "line"] (gdX (if false then [0, 1] else [1, 0])) (sCons (sVar 1) (sCons (sVar 2) sNil)) sNil) sNil)))))))
  (sSeq (sFor (sEnum (sCons (sBin gAdd (sVar 3) (sVal (sLst (sCons (sMk "UnknownCommand" 1 0 ["command"] (gdX [0]) (sCons (sVar 1) sNil) sNil) (sCons (sMk "UndoError" 1 0 ["count"] (gdX [0]) (sCons (sVar 1) sNil) sNil) sNil))))) sNil)) (gTp 2 (gsCons (gNm 4) (gsCons (gNm 5) gsNil))) B1__law_trial)
  (sRet (sAndV (sBin gEq (sB gRepr (sCons (sCall 1 0 (gdP [0] []) f__law_caught (sCons (sVar 1) sNil) sNil) sNil)) (sB gRepr (sCons (sVal (sLst (sCons (sVar 1) (sCons (sVar 1) sNil)))) sNil))) (sCall 2 0 (gdP [0, 1] []) f__law_attributes_hold (sCons (sVar 1) (sCons (sVar 2) sNil)) sNil)))))))
def f__law_trial : FD := runF 7 b__law_trial
abbrev s_law : Stmt := (top 20)
abbrev n_law : List Str := ["_law_script", "_law_position"]
theorem sc_law : FnScope n_law ["_law_script"] (defScope s_law) := ⟨rfl, rfl, rfl, by decide +kernel, rfl, by decide +kernel, by decide +kernel⟩
def B1_law : SS := (sIfS (sNotT (sTst (sCall 1 0 (gdP [0] []) f__law_trial (sCons (sCall 2 0 (gdP [0, 1] []) f__law_stream (sCons (sVar 0) (sCons (sVar 1) sNil)) sNil) sNil) sNil)))
  (sRet (sC (.bl false)))
  sNx)
def b_law : SS := (sSeq (sFor (sRng1 (sCons (sB gMin2 (sCons (sC (.int 8)) (sCons (sB gLen (sCons (sVar 0) sNil)) sNil))) sNil)) (gNm 1) B1_law)
  (sRet (sCall 1 0 (gdP [0] []) f__law_trial (sCons (sNew (sLst (sCons (sC (.int 0)) (sCons (sC (.int 0)) (sCons (sC (.int 0)) sNil))))) sNil) sNil)))
def f_law : FD := runF 2 b_law
structure Txt (K : PySem.W.Frag) (mg : Str → Option Value) : Prop where
  b_abs : mg "abs" = none
  b_enumerate : mg "enumerate" = none
  b_isinstance : mg "isinstance" = none
  b_len : mg "len" = none
  b_min : mg "min" = none
  b_range : mg "range" = none
  b_repr : mg "repr" = none
  b_str : mg "str" = none
  mt : MtOk K mg mb mx
  cls_CycleError : ClsA K mg mb mx "CycleError"
  cls_FlockError : ClsA K mg mb mx "FlockError"
  cls_IndexError : ClsA K mg mb mx "IndexError"
  cls_InvalidAction : ClsA K mg mb mx "InvalidAction"
  cls_InvalidCertificate : ClsA K mg mb mx "InvalidCertificate"
  cls_InvalidPartCount : ClsA K mg mb mx "InvalidPartCount"
  cls_InvalidState : ClsA K mg mb mx "InvalidState"
  cls_KeyError : ClsA K mg mb mx "KeyError"
  cls_LookupError : ClsA K mg mb mx "LookupError"
  cls_MissingError : ClsA K mg mb mx "MissingError"
  cls_ParseError : ClsA K mg mb mx "ParseError"
  cls_StateMismatch : ClsA K mg mb mx "StateMismatch"
  cls_UndoError : ClsA K mg mb mx "UndoError"
  cls_UnknownCommand : ClsA K mg mb mx "UnknownCommand"
  cls_ValueError : ClsA K mg mb mx "ValueError"
  cls_list : ClsA K mg mb mx "list"
  ex_FlockError : ExG K mg mx "FlockError"
  ex_MissingError : ExG K mg mx "MissingError"
  xd0_InvalidState : XDef0 K mg "InvalidState"
  xf_command : XfOk K mg "command" xfC_command
  xf_count : XfOk K mg "count" xfC_count
  xf_index : XfOk K mg "index" xfC_index
  xf_line : XfOk K mg "line" xfC_line
  xf_reason : XfOk K mg "reason" xfC_reason
  xf_value : XfOk K mg "value" xfC_value
  xf_word : XfOk K mg "word" xfC_word
section
variable {P : Program} {w : World} {K : PySem.W.Frag} {mg : Str → Option Value} {base : Heap} (T : Txt K mg)
include T
theorem pb__law_stream  {qual : Str} {f : Addr} {cd : Value} {A : Around} {outer : List PySem.Env} {s : Shared} {H : Hp} {E : XK} {anc : Anc} (gd0 : A.guards = some []) (hr : Room 0 (A.deeper (PyProof.Rows.envOfC qual (defScope s__law_stream) s.heap.objs.size f cd))) :
    PFB (fJ P w K mg base n__law_stream qual (defScope s__law_stream) f cd A outer s H E anc) (defBody s__law_stream) b__law_stream := by
  have hN := sc__law_stream.nd
  have tk := fj_takes (P := P) (w := w) (K := K) (mg := mg) (base := base) (N := n__law_stream) (qual := qual) (scope := defScope s__law_stream) (f := f) (cd := cd) (A := A) (outer := outer) (s := s) (H := H) (E := E) (anc := anc)
  have hp := fj_passes (P := P) (w := w) (K := K) (mg := mg) (base := base) (N := n__law_stream) (qual := qual) (scope := defScope s__law_stream) (f := f) (cd := cd) (A := A) (outer := outer) (s := s) (H := H) (E := E) (anc := anc)
  have gd := fj_guards (P := P) (w := w) (K := K) (mg := mg) (base := base) (N := n__law_stream) (qual := qual) (scope := defScope s__law_stream) (f := f) (cd := cd) (outer := outer) (s := s) (H := H) (E := E) (anc := anc) gd0
  unfold b__law_stream
  exact (pb_cons (pfs_set 2 pf_int hN)
  (pb_cons (pfs_if (pt_lt (pf_var 1) (pf_len T.b_len (pfa_cons (pf_var 0) pfa_nil))) (pb_one (pfs_set 2 (pf_ix (pf_var 0) (pf_var 1)) hN)) pb_nil)
  (pb_cons (pfs_set 3 (pf_callB call_abs cd_abs T.b_abs (pfa_cons (pf_var 2) pfa_nil)) hN)
  (pb_cons (pfs_if (pt_lt (pf_var 3) (pf_pow pf_int pf_int)) (pb_one (pfs_set 3 pf_int hN)) pb_nil)
  (pb_one (pfs_ret (pf_new (pfl_lst (pfa_cons (pf_var 3) (pfa_cons (pf_mod (pf_add (pf_add (pf_mul (pf_mod (pf_var 2) pf_int) pf_int) (pf_mul pf_int (pf_var 1))) pf_int) pf_int) (pfa_cons pf_int pfa_nil)))))))))))
theorem pb__law_draw  {qual : Str} {f : Addr} {cd : Value} {A : Around} {outer : List PySem.Env} {s : Shared} {H : Hp} {E : XK} {anc : Anc} (gd0 : A.guards = some []) (hr : Room 0 (A.deeper (PyProof.Rows.envOfC qual (defScope s__law_draw) s.heap.objs.size f cd))) :
    PFB (fJ P w K mg base n__law_draw qual (defScope s__law_draw) f cd A outer s H E anc) (defBody s__law_draw) b__law_draw := by
  have hN := sc__law_draw.nd
  have tk := fj_takes (P := P) (w := w) (K := K) (mg := mg) (base := base) (N := n__law_draw) (qual := qual) (scope := defScope s__law_draw) (f := f) (cd := cd) (A := A) (outer := outer) (s := s) (H := H) (E := E) (anc := anc)
  have hp := fj_passes (P := P) (w := w) (K := K) (mg := mg) (base := base) (N := n__law_draw) (qual := qual) (scope := defScope s__law_draw) (f := f) (cd := cd) (A := A) (outer := outer) (s := s) (H := H) (E := E) (anc := anc)
  have gd := fj_guards (P := P) (w := w) (K := K) (mg := mg) (base := base) (N := n__law_draw) (qual := qual) (scope := defScope s__law_draw) (f := f) (cd := cd) (outer := outer) (s := s) (H := H) (E := E) (anc := anc) gd0
  unfold b__law_draw
  exact (pb_cons (pfs_if (pt_gt (pf_ix (pf_var 0) pf_int) pf_int) (pb_cons (pfs_set 2 (pf_mod (pf_ix (pf_var 0) pf_int) (pf_var 1)) hN)
  (pb_cons (pfs_setIx (pf_div (pf_ix (pf_var 0) pf_int) (pf_var 1)) (pf_var 0) pf_int)
  (pb_one (pfs_ret (pf_var 2))))) pb_nil)
  (pb_cons (pfs_set 3 (pf_add (pf_ix (pf_var 0) pf_int) pf_int) hN)
  (pb_cons (pfs_setIx (pf_var 3) (pf_var 0) pf_int)
  (pb_cons (pfs_set 4 (pf_mod (pf_add (pf_add (pf_ix (pf_var 0) pf_int) (pf_mul (pf_mul pf_int (pf_var 3)) (pf_var 3))) (pf_mul pf_int (pf_var 3))) pf_int) hN)
  (pb_cons (pfs_set 4 (pf_mod (pf_add (pf_add (pf_mul (pf_var 4) (pf_var 4)) (pf_mul pf_int (pf_var 4))) (pf_var 3)) pf_int) hN)
  (pb_cons (pfs_set 4 (pf_mod (pf_add (pf_mul (pf_var 4) (pf_var 4)) (pf_mul pf_int (pf_var 4))) pf_int) hN)
  (pb_one (pfs_ret (pf_mod (pf_div (pf_var 4) pf_int) (pf_var 1))))))))))
theorem pb__law_entry (c_co__law_draw_2 : CallOk P w K mg base "_law_draw" 1 2 [] (gdP [0, 1] []) f__law_draw) {qual : Str} {f : Addr} {cd : Value} {A : Around} {outer : List PySem.Env} {s : Shared} {H : Hp} {E : XK} {anc : Anc} (gd0 : A.guards = some []) (hr : Room 1 (A.deeper (PyProof.Rows.envOfC qual (defScope s__law_entry) s.heap.objs.size f cd))) :
    PFB (fJ P w K mg base n__law_entry qual (defScope s__law_entry) f cd A outer s H E anc) (defBody s__law_entry) b__law_entry := by
  have hN := sc__law_entry.nd
  have tk := fj_takes (P := P) (w := w) (K := K) (mg := mg) (base := base) (N := n__law_entry) (qual := qual) (scope := defScope s__law_entry) (f := f) (cd := cd) (A := A) (outer := outer) (s := s) (H := H) (E := E) (anc := anc)
  have hp := fj_passes (P := P) (w := w) (K := K) (mg := mg) (base := base) (N := n__law_entry) (qual := qual) (scope := defScope s__law_entry) (f := f) (cd := cd) (A := A) (outer := outer) (s := s) (H := H) (E := E) (anc := anc)
  have gd := fj_guards (P := P) (w := w) (K := K) (mg := mg) (base := base) (N := n__law_entry) (qual := qual) (scope := defScope s__law_entry) (f := f) (cd := cd) (outer := outer) (s := s) (H := H) (E := E) (anc := anc) gd0
  unfold b__law_entry
  exact (pb_cons (pfs_set 1 (pf_ix (pf_val (pfl_lst (pfa_cons pf_int (pfa_cons pf_int (pfa_cons (pf_sub pf_int pf_int) (pfa_cons (pf_pow pf_int pf_int) pfa_nil)))))) (pf_c c_co__law_draw_2 gd (hr.mono (by decide : 1 ≤ _)) tk (pfa_cons (pf_var 0) (pfa_cons pf_int pfa_nil)))) hN)
  (pb_cons (pfs_set 2 (pf_val (pfl_lst (pfa_cons (pf_var 1) (pfa_cons (pf_callTy call_strA cd_str T.b_str (pfa_cons (pf_var 1) pfa_nil)) (pfa_cons (pf_tup (pfa_cons (pf_var 1) (pfa_cons pf_str pfa_nil))) (pfa_cons pf_non (pfa_cons (pf_eq hr (pf_var 1) pf_int) (pfa_cons pf_str (pfa_cons (pf_tup pfa_nil) (pfa_cons (pf_new (pfl_lst (pfa_cons (pf_var 1) (pfa_cons (pf_val (pfl_lst (pfa_cons pf_str pfa_nil))) pfa_nil)))) (pfa_cons (pf_tup (pfa_cons pf_str (pfa_cons (pf_tup (pfa_cons pf_str (pfa_cons (pf_var 1) pfa_nil))) pfa_nil))) pfa_nil))))))))))) hN)
  (pb_one (pfs_ret (pf_ix (pf_var 2) (pf_c c_co__law_draw_2 gd (hr.mono (by decide : 1 ≤ _)) tk (pfa_cons (pf_var 0) (pfa_cons pf_int pfa_nil))))))))
theorem pb__law_classes  {qual : Str} {f : Addr} {cd : Value} {A : Around} {outer : List PySem.Env} {s : Shared} {H : Hp} {E : XK} {anc : Anc} (gd0 : A.guards = some []) (hr : Room 0 (A.deeper (PyProof.Rows.envOfC qual (defScope s__law_classes) s.heap.objs.size f cd))) :
    PFB (fJ P w K mg base n__law_classes qual (defScope s__law_classes) f cd A outer s H E anc) (defBody s__law_classes) b__law_classes := by
  have hN := sc__law_classes.nd
  have tk := fj_takes (P := P) (w := w) (K := K) (mg := mg) (base := base) (N := n__law_classes) (qual := qual) (scope := defScope s__law_classes) (f := f) (cd := cd) (A := A) (outer := outer) (s := s) (H := H) (E := E) (anc := anc)
  have hp := fj_passes (P := P) (w := w) (K := K) (mg := mg) (base := base) (N := n__law_classes) (qual := qual) (scope := defScope s__law_classes) (f := f) (cd := cd) (A := A) (outer := outer) (s := s) (H := H) (E := E) (anc := anc)
  have gd := fj_guards (P := P) (w := w) (K := K) (mg := mg) (base := base) (N := n__law_classes) (qual := qual) (scope := defScope s__law_classes) (f := f) (cd := cd) (outer := outer) (s := s) (H := H) (E := E) (anc := anc) gd0
  unfold b__law_classes
  exact (pb_cons (pfs_set 1 (pf_val (pfl_lst (pfa_cons (pf_isi T.mt T.b_isinstance (pf_var 0) T.cls_InvalidState) (pfa_cons (pf_isi T.mt T.b_isinstance (pf_var 0) T.cls_InvalidPartCount) (pfa_cons (pf_isi T.mt T.b_isinstance (pf_var 0) T.cls_StateMismatch) pfa_nil))))) hN)
  (pb_cons (pfs_set 1 (pf_add (pf_var 1) (pf_val (pfl_lst (pfa_cons (pf_isi T.mt T.b_isinstance (pf_var 0) T.cls_InvalidCertificate) (pfa_cons (pf_isi T.mt T.b_isinstance (pf_var 0) T.cls_CycleError) pfa_nil))))) hN)
  (pb_cons (pfs_set 1 (pf_add (pf_var 1) (pf_val (pfl_lst (pfa_cons (pf_isi T.mt T.b_isinstance (pf_var 0) T.cls_InvalidAction) (pfa_cons (pf_isi T.mt T.b_isinstance (pf_var 0) T.cls_ParseError) pfa_nil))))) hN)
  (pb_one (pfs_ret (pf_add (pf_var 1) (pf_val (pfl_lst (pfa_cons (pf_isi T.mt T.b_isinstance (pf_var 0) T.cls_UnknownCommand) (pfa_cons (pf_isi T.mt T.b_isinstance (pf_var 0) T.cls_UndoError) pfa_nil))))))))))
theorem pb__law_caught (c_xd_InvalidAction_1 : XDef P w K mg base "InvalidAction" 1 1 [] ["reason"] (gdX [0])) (c_xd_UndoError_1 : XDef P w K mg base "UndoError" 1 1 [] ["count"] (gdX [0])) {qual : Str} {f : Addr} {cd : Value} {A : Around} {outer : List PySem.Env} {s : Shared} {H : Hp} {E : XK} {anc : Anc} (gd0 : A.guards = some []) (hr : Room 2 (A.deeper (PyProof.Rows.envOfC qual (defScope s__law_caught) s.heap.objs.size f cd))) :
    PFB (fJ P w K mg base n__law_caught qual (defScope s__law_caught) f cd A outer s H E anc) (defBody s__law_caught) b__law_caught := by
  have hN := sc__law_caught.nd
  have tk := fj_takes (P := P) (w := w) (K := K) (mg := mg) (base := base) (N := n__law_caught) (qual := qual) (scope := defScope s__law_caught) (f := f) (cd := cd) (A := A) (outer := outer) (s := s) (H := H) (E := E) (anc := anc)
  have hp := fj_passes (P := P) (w := w) (K := K) (mg := mg) (base := base) (N := n__law_caught) (qual := qual) (scope := defScope s__law_caught) (f := f) (cd := cd) (A := A) (outer := outer) (s := s) (H := H) (E := E) (anc := anc)
  have gd := fj_guards (P := P) (w := w) (K := K) (mg := mg) (base := base) (N := n__law_caught) (qual := qual) (scope := defScope s__law_caught) (f := f) (cd := cd) (outer := outer) (s := s) (H := H) (E := E) (anc := anc) gd0
  unfold b__law_caught
  exact (pb_cons (pfs_set 1 (pf_new (pfl_lst pfa_nil)) hN)
  (pb_cons (pfs_try rfl rfl (fun _ _ _ tk hp => (pb_one (pfs_raise (pfm_call (c_xd_InvalidAction_1) (hr.mono (by decide : 2 ≤ _)) (pfa_cons (pf_var 0) pfa_nil)) tk))) (pfh_as 2 rfl (pfx_name T.ex_FlockError) (fun _ _ => (pb_one (pfs_expr (pf_append (pf_var 1) (pfa_cons (pf_xf (pf_var 2) T.xf_reason) pfa_nil))))) (pfh_nil rfl rfl tk) hN))
  (pb_cons (pfs_try rfl rfl (fun _ _ _ tk hp => (pb_one (pfs_raise (pfm_call (c_xd_UndoError_1) (hr.mono (by decide : 2 ≤ _)) (pfa_cons (pf_var 0) pfa_nil)) tk))) (pfh_as 2 rfl (pfx_name T.ex_MissingError) (fun _ _ => (pb_one (pfs_expr (pf_append (pf_var 1) (pfa_cons (pf_xf (pf_var 2) T.xf_count) pfa_nil))))) (pfh_nil rfl rfl tk) hN))
  (pb_one (pfs_ret (pf_var 1))))))
theorem pb__law_attributes_hold (c_xd_CycleError_0_reason : XDef P w K mg base "CycleError" 1 0 ["reason"] ["reason"] (gdX [0])) (c_xd_CycleError_1 : XDef P w K mg base "CycleError" 1 1 [] ["reason"] (gdX [0])) (c_xd_InvalidAction_0_reason : XDef P w K mg base "InvalidAction" 1 0 ["reason"] ["reason"] (gdX [0])) (c_xd_InvalidAction_1 : XDef P w K mg base "InvalidAction" 1 1 [] ["reason"] (gdX [0])) (c_xd_InvalidCertificate_0_index_reason : XDef P w K mg base "InvalidCertificate" 1 0 ["index", "reason"] ["index", "reason"] (gdX (if true then [0, 1] else [1, 0]))) (c_xd_InvalidCertificate_2 : XDef P w K mg base "InvalidCertificate" 1 2 [] ["index", "reason"] (gdX (if false then [0, 1] else [1, 0]))) (c_xd_InvalidPartCount_0_value : XDef P w K mg base "InvalidPartCount" 1 0 ["value"] ["value"] (gdX [0])) (c_xd_InvalidPartCount_1 : XDef P w K mg base "InvalidPartCount" 1 1 [] ["value"] (gdX [0])) (c_xd_ParseError_0_word_line : XDef P w K mg base "ParseError" 1 0 ["word", "line"] ["word", "line"] (gdX (if true then [0, 1] else [1, 0]))) (c_xd_ParseError_2 : XDef P w K mg base "ParseError" 1 2 [] ["word", "line"] (gdX (if false then [0, 1] else [1, 0]))) (c_xd_StateMismatch_0_reason : XDef P w K mg base "StateMismatch" 1 0 ["reason"] ["reason"] (gdX [0])) (c_xd_StateMismatch_1 : XDef P w K mg base "StateMismatch" 1 1 [] ["reason"] (gdX [0])) (c_xd_UndoError_0_count : XDef P w K mg base "UndoError" 1 0 ["count"] ["count"] (gdX [0])) (c_xd_UndoError_1 : XDef P w K mg base "UndoError" 1 1 [] ["count"] (gdX [0])) (c_xd_UnknownCommand_0_command : XDef P w K mg base "UnknownCommand" 1 0 ["command"] ["command"] (gdX [0])) (c_xd_UnknownCommand_1 : XDef P w K mg base "UnknownCommand" 1 1 [] ["command"] (gdX [0])) {qual : Str} {f : Addr} {cd : Value} {A : Around} {outer : List PySem.Env} {s : Shared} {H : Hp} {E : XK} {anc : Anc} (gd0 : A.guards = some []) (hr : Room 2 (A.deeper (PyProof.Rows.envOfC qual (defScope s__law_attributes_hold) s.heap.objs.size f cd))) :
    PFB (fJ P w K mg base n__law_attributes_hold qual (defScope s__law_attributes_hold) f cd A outer s H E anc) (defBody s__law_attributes_hold) b__law_attributes_hold := by
  have hN := sc__law_attributes_hold.nd
  have tk := fj_takes (P := P) (w := w) (K := K) (mg := mg) (base := base) (N := n__law_attributes_hold) (qual := qual) (scope := defScope s__law_attributes_hold) (f := f) (cd := cd) (A := A) (outer := outer) (s := s) (H := H) (E := E) (anc := anc)
  have hp := fj_passes (P := P) (w := w) (K := K) (mg := mg) (base := base) (N := n__law_attributes_hold) (qual := qual) (scope := defScope s__law_attributes_hold) (f := f) (cd := cd) (A := A) (outer := outer) (s := s) (H := H) (E := E) (anc := anc)
  have gd := fj_guards (P := P) (w := w) (K := K) (mg := mg) (base := base) (N := n__law_attributes_hold) (qual := qual) (scope := defScope s__law_attributes_hold) (f := f) (cd := cd) (outer := outer) (s := s) (H := H) (E := E) (anc := anc) gd0
  unfold b__law_attributes_hold
  exact (pb_cons (pfs_set 2 (pf_val (pfl_lst (pfa_cons (pf_xf (pf_mkv (pfm_call (c_xd_InvalidPartCount_1) (hr.mono (by decide : 2 ≤ _)) (pfa_cons (pf_var 0) pfa_nil))) T.xf_value) (pfa_cons (pf_xf (pf_mkv (pfm_call (c_xd_StateMismatch_1) (hr.mono (by decide : 2 ≤ _)) (pfa_cons (pf_var 0) pfa_nil))) T.xf_reason) (pfa_cons (pf_xf (pf_mkv (pfm_call (c_xd_CycleError_1) (hr.mono (by decide : 2 ≤ _)) (pfa_cons (pf_var 0) pfa_nil))) T.xf_reason) pfa_nil))))) hN)
  (pb_cons (pfs_set 2 (pf_add (pf_var 2) (pf_val (pfl_lst (pfa_cons (pf_xf (pf_mkv (pfm_call (c_xd_InvalidAction_1) (hr.mono (by decide : 2 ≤ _)) (pfa_cons (pf_var 0) pfa_nil))) T.xf_reason) (pfa_cons (pf_xf (pf_mkv (pfm_call (c_xd_UnknownCommand_1) (hr.mono (by decide : 2 ≤ _)) (pfa_cons (pf_var 0) pfa_nil))) T.xf_command) (pfa_cons (pf_xf (pf_mkv (pfm_call (c_xd_UndoError_1) (hr.mono (by decide : 2 ≤ _)) (pfa_cons (pf_var 0) pfa_nil))) T.xf_count) pfa_nil)))))) hN)
  (pb_cons (pfs_set 2 (pf_add (pf_var 2) (pf_val (pfl_lst (pfa_cons (pf_xf (pf_mkv (pfm_call (c_xd_InvalidCertificate_2) (hr.mono (by decide : 2 ≤ _)) (pfa_cons (pf_var 0) (pfa_cons (pf_var 1) pfa_nil)))) T.xf_reason) (pfa_cons (pf_xf (pf_mkv (pfm_call (c_xd_InvalidCertificate_2) (hr.mono (by decide : 2 ≤ _)) (pfa_cons (pf_var 1) (pfa_cons (pf_var 0) pfa_nil)))) T.xf_index) pfa_nil))))) hN)
  (pb_cons (pfs_set 2 (pf_add (pf_var 2) (pf_val (pfl_lst (pfa_cons (pf_xf (pf_mkv (pfm_call (c_xd_ParseError_2) (hr.mono (by decide : 2 ≤ _)) (pfa_cons (pf_var 0) (pfa_cons (pf_var 1) pfa_nil)))) T.xf_line) (pfa_cons (pf_xf (pf_mkv (pfm_call (c_xd_ParseError_2) (hr.mono (by decide : 2 ≤ _)) (pfa_cons (pf_var 1) (pfa_cons (pf_var 0) pfa_nil)))) T.xf_word) pfa_nil))))) hN)
  (pb_cons (pfs_set 2 (pf_add (pf_var 2) (pf_val (pfl_lst (pfa_cons (pf_xf (pf_mkv (pfm_callK (ks := ["index", "reason"]) c_xd_InvalidCertificate_0_index_reason (hr.mono (by decide : 2 ≤ _)) (pfk_cons (pf_var 0) (pfk_cons (pf_var 1) pfk_nil)))) T.xf_index) (pfa_cons (pf_xf (pf_mkv (pfm_callK (ks := ["word", "line"]) c_xd_ParseError_0_word_line (hr.mono (by decide : 2 ≤ _)) (pfk_cons (pf_var 0) (pfk_cons (pf_var 1) pfk_nil)))) T.xf_word) pfa_nil))))) hN)
  (pb_cons (pfs_set 2 (pf_add (pf_var 2) (pf_val (pfl_lst (pfa_cons (pf_xf (pf_mkv (pfm_callK (ks := ["value"]) c_xd_InvalidPartCount_0_value (hr.mono (by decide : 2 ≤ _)) (pfk_cons (pf_var 0) pfk_nil))) T.xf_value) (pfa_cons (pf_xf (pf_mkv (pfm_callK (ks := ["reason"]) c_xd_StateMismatch_0_reason (hr.mono (by decide : 2 ≤ _)) (pfk_cons (pf_var 0) pfk_nil))) T.xf_reason) pfa_nil))))) hN)
  (pb_cons (pfs_set 2 (pf_add (pf_var 2) (pf_val (pfl_lst (pfa_cons (pf_xf (pf_mkv (pfm_callK (ks := ["command"]) c_xd_UnknownCommand_0_command (hr.mono (by decide : 2 ≤ _)) (pfk_cons (pf_var 0) pfk_nil))) T.xf_command) (pfa_cons (pf_xf (pf_mkv (pfm_callK (ks := ["count"]) c_xd_UndoError_0_count (hr.mono (by decide : 2 ≤ _)) (pfk_cons (pf_var 0) pfk_nil))) T.xf_count) pfa_nil))))) hN)
  (pb_cons (pfs_set 2 (pf_add (pf_var 2) (pf_val (pfl_lst (pfa_cons (pf_xf (pf_mkv (pfm_callK (ks := ["reason"]) c_xd_CycleError_0_reason (hr.mono (by decide : 2 ≤ _)) (pfk_cons (pf_var 0) pfk_nil))) T.xf_reason) (pfa_cons (pf_xf (pf_mkv (pfm_callK (ks := ["reason"]) c_xd_InvalidAction_0_reason (hr.mono (by decide : 2 ≤ _)) (pfk_cons (pf_var 0) pfk_nil))) T.xf_reason) pfa_nil))))) hN)
  (pb_cons (pfs_if (pt_ne hr (pf_repr gd hr T.b_repr (pfa_cons (pf_var 2) pfa_nil)) (pf_repr gd hr T.b_repr (pfa_cons (pf_mul (pf_val (pfl_lst (pfa_cons (pf_var 0) pfa_nil))) pf_int) pfa_nil))) (pb_one (pfs_ret pf_bl)) pb_nil)
  (pb_cons (pfs_if (pt_val' (pf_isi T.mt T.b_isinstance (pf_var 0) T.cls_list)) (pb_one (pfs_expr (pf_append (pf_var 0) (pfa_cons pf_str pfa_nil)))) pb_nil)
  (pb_one (pfs_ret (pf_eq hr (pf_repr gd hr T.b_repr (pfa_cons (pf_var 2) pfa_nil)) (pf_repr gd hr T.b_repr (pfa_cons (pf_mul (pf_val (pfl_lst (pfa_cons (pf_var 0) pfa_nil))) pf_int) pfa_nil)))))))))))))))
theorem pb__law_trial (c_co__law_attributes_hold_2 : CallOk P w K mg base "_law_attributes_hold" 3 2 [] (gdP [0, 1] []) f__law_attributes_hold) (c_co__law_caught_1 : CallOk P w K mg base "_law_caught" 3 1 [] (gdP [0] []) f__law_caught) (c_co__law_classes_1 : CallOk P w K mg base "_law_classes" 1 1 [] (gdP [0] []) f__law_classes) (c_co__law_entry_1 : CallOk P w K mg base "_law_entry" 2 1 [] (gdP [0] []) f__law_entry) (c_xd_CycleError_1 : XDef P w K mg base "CycleError" 1 1 [] ["reason"] (gdX [0])) (c_xd_InvalidAction_1 : XDef P w K mg base "InvalidAction" 1 1 [] ["reason"] (gdX [0])) (c_xd_InvalidCertificate_2 : XDef P w K mg base "InvalidCertificate" 1 2 [] ["index", "reason"] (gdX (if false then [0, 1] else [1, 0]))) (c_xd_InvalidPartCount_1 : XDef P w K mg base "InvalidPartCount" 1 1 [] ["value"] (gdX [0])) (c_xd_ParseError_2 : XDef P w K mg base "ParseError" 1 2 [] ["word", "line"] (gdX (if false then [0, 1] else [1, 0]))) (c_xd_StateMismatch_1 : XDef P w K mg base "StateMismatch" 1 1 [] ["reason"] (gdX [0])) (c_xd_UndoError_1 : XDef P w K mg base "UndoError" 1 1 [] ["count"] (gdX [0])) (c_xd_UnknownCommand_1 : XDef P w K mg base "UnknownCommand" 1 1 [] ["command"] (gdX [0])) {qual : Str} {f : Addr} {cd : Value} {A : Around} {outer : List PySem.Env} {s : Shared} {H : Hp} {E : XK} {anc : Anc} (gd0 : A.guards = some []) (hr : Room 3 (A.deeper (PyProof.Rows.envOfC qual (defScope s__law_trial) s.heap.objs.size f cd))) :
    PFB (fJ P w K mg base n__law_trial qual (defScope s__law_trial) f cd A outer s H E anc) (defBody s__law_trial) b__law_trial := by
  have hN := sc__law_trial.nd
  have tk := fj_takes (P := P) (w := w) (K := K) (mg := mg) (base := base) (N := n__law_trial) (qual := qual) (scope := defScope s__law_trial) (f := f) (cd := cd) (A := A) (outer := outer) (s := s) (H := H) (E := E) (anc := anc)
  have hp := fj_passes (P := P) (w := w) (K := K) (mg := mg) (base := base) (N := n__law_trial) (qual := qual) (scope := defScope s__law_trial) (f := f) (cd := cd) (A := A) (outer := outer) (s := s) (H := H) (E := E) (anc := anc)
  have gd := fj_guards (P := P) (w := w) (K := K) (mg := mg) (base := base) (N := n__law_trial) (qual := qual) (scope := defScope s__law_trial) (f := f) (cd := cd) (outer := outer) (s := s) (H := H) (E := E) (anc := anc) gd0
  unfold b__law_trial
  exact (pb_cons (pfs_par 1 2 hN (pfa_cons (pf_c c_co__law_entry_1 gd (hr.mono (by decide : 2 ≤ _)) tk (pfa_cons (pf_var 0) pfa_nil)) (pfa_cons (pf_c c_co__law_entry_1 gd (hr.mono (by decide : 2 ≤ _)) tk (pfa_cons (pf_var 0) pfa_nil)) pfa_nil)))
  (pb_cons (pfs_set 3 (pf_val (pfl_lst (pfa_cons (pf_mkv (pfm_call0 T.xd0_InvalidState)) (pfa_cons (pf_mkv (pfm_call (c_xd_InvalidPartCount_1) (hr.mono (by decide : 2 ≤ _)) (pfa_cons (pf_var 1) pfa_nil))) (pfa_cons (pf_mkv (pfm_call (c_xd_StateMismatch_1) (hr.mono (by decide : 2 ≤ _)) (pfa_cons (pf_var 1) pfa_nil))) (pfa_cons (pf_mkv (pfm_call (c_xd_InvalidCertificate_2) (hr.mono (by decide : 2 ≤ _)) (pfa_cons (pf_var 1) (pfa_cons (pf_var 2) pfa_nil)))) pfa_nil)))))) hN)
  (pb_cons (pfs_set 3 (pf_add (pf_var 3) (pf_val (pfl_lst (pfa_cons (pf_mkv (pfm_call (c_xd_CycleError_1) (hr.mono (by decide : 2 ≤ _)) (pfa_cons (pf_var 1) pfa_nil))) (pfa_cons (pf_mkv (pfm_call (c_xd_InvalidAction_1) (hr.mono (by decide : 2 ≤ _)) (pfa_cons (pf_var 1) pfa_nil))) (pfa_cons (pf_mkv (pfm_call (c_xd_ParseError_2) (hr.mono (by decide : 2 ≤ _)) (pfa_cons (pf_var 1) (pfa_cons (pf_var 2) pfa_nil)))) pfa_nil)))))) hN)
  (pb_cons (pfs_for hp (pfi_enum T.b_enumerate (pfa_cons (pf_add (pf_var 3) (pf_val (pfl_lst (pfa_cons (pf_mkv (pfm_call (c_xd_UnknownCommand_1) (hr.mono (by decide : 2 ≤ _)) (pfa_cons (pf_var 1) pfa_nil))) (pfa_cons (pf_mkv (pfm_call (c_xd_UndoError_1) (hr.mono (by decide : 2 ≤ _)) (pfa_cons (pf_var 1) pfa_nil))) pfa_nil))))) pfa_nil)) (fun _ => (pfg_tup (pfgs_cons (pfg_name 4 hN) (pfgs_cons (pfg_name 5 hN) pfgs_nil)))) (fun _ => (pb_cons (pfs_set 6 (pf_c c_co__law_classes_1 gd (hr.mono (by decide : 1 ≤ _)) tk (pfa_cons (pf_var 5) pfa_nil)) hN)
  (pb_cons (pfs_if (pw_pt (pw_or' (pt_ne hr (pf_count (pf_var 6) (pfa_cons pf_bl pfa_nil)) pf_int) (pw_or1' (pt_not' (pt_val' (pf_ix (pf_var 6) (pf_var 4))))))) (pb_one (pfs_ret pf_bl)) pb_nil)
  (pb_cons (pfs_if (pw_pt (pw_or' (pt_ne hr (pf_isi T.mt T.b_isinstance (pf_var 5) T.cls_FlockError) (pf_lt (pf_var 4) pf_int)) (pw_or1' (pt_ne hr (pf_isi T.mt T.b_isinstance (pf_var 5) T.cls_ValueError) (pf_lt (pf_var 4) pf_int))))) (pb_one (pfs_ret pf_bl)) pb_nil)
  (pb_cons (pfs_if (pw_pt (pw_or' (pt_eq hr (pf_isi T.mt T.b_isinstance (pf_var 5) T.cls_MissingError) (pf_lt (pf_var 4) pf_int)) (pw_or1' (pt_eq hr (pf_isi T.mt T.b_isinstance (pf_var 5) T.cls_LookupError) (pf_lt (pf_var 4) pf_int))))) (pb_one (pfs_ret pf_bl)) pb_nil)
  (pb_one (pfs_if (pt_val' (pf_isiT T.mt T.b_isinstance (pf_var 5) (.cons T.cls_KeyError (.cons T.cls_IndexError .nil)))) (pb_one (pfs_ret pf_bl)) pb_nil))))))))
  (pb_one (pfs_ret (pf_and (pf_eq hr (pf_repr gd hr T.b_repr (pfa_cons (pf_c c_co__law_caught_1 gd (hr.mono (by decide : 3 ≤ _)) tk (pfa_cons (pf_var 1) pfa_nil)) pfa_nil)) (pf_repr gd hr T.b_repr (pfa_cons (pf_val (pfl_lst (pfa_cons (pf_var 1) (pfa_cons (pf_var 1) pfa_nil)))) pfa_nil))) (pf_one (pf_c c_co__law_attributes_hold_2 gd (hr.mono (by decide : 3 ≤ _)) tk (pfa_cons (pf_var 1) (pfa_cons (pf_var 2) pfa_nil)))))))))))
theorem pb_law (c_co__law_stream_2 : CallOk P w K mg base "_law_stream" 1 2 [] (gdP [0, 1] []) f__law_stream) (c_co__law_trial_1 : CallOk P w K mg base "_law_trial" 4 1 [] (gdP [0] []) f__law_trial) {qual : Str} {f : Addr} {cd : Value} {A : Around} {outer : List PySem.Env} {s : Shared} {H : Hp} {E : XK} {anc : Anc} (gd0 : A.guards = some []) (hr : Room 4 (A.deeper (PyProof.Rows.envOfC qual (defScope s_law) s.heap.objs.size f cd))) :
    PFB (fJ P w K mg base n_law qual (defScope s_law) f cd A outer s H E anc) (defBody s_law) b_law := by
  have hN := sc_law.nd
  have tk := fj_takes (P := P) (w := w) (K := K) (mg := mg) (base := base) (N := n_law) (qual := qual) (scope := defScope s_law) (f := f) (cd := cd) (A := A) (outer := outer) (s := s) (H := H) (E := E) (anc := anc)
  have hp := fj_passes (P := P) (w := w) (K := K) (mg := mg) (base := base) (N := n_law) (qual := qual) (scope := defScope s_law) (f := f) (cd := cd) (A := A) (outer := outer) (s := s) (H := H) (E := E) (anc := anc)
  have gd := fj_guards (P := P) (w := w) (K := K) (mg := mg) (base := base) (N := n_law) (qual := qual) (scope := defScope s_law) (f := f) (cd := cd) (outer := outer) (s := s) (H := H) (E := E) (anc := anc) gd0
  unfold b_law
  exact (pb_cons (pfs_for hp (pfi_range1 T.b_range (pfa_cons (pf_callB (call_min2 rfl) cd_min2 T.b_min (pfa_cons pf_int (pfa_cons (pf_len T.b_len (pfa_cons (pf_var 0) pfa_nil)) pfa_nil))) pfa_nil)) (fun _ => (pfg_name 1 hN)) (fun _ => (pb_one (pfs_if (pt_not' (pt_val' (pf_c c_co__law_trial_1 gd (hr.mono (by decide : 4 ≤ _)) tk (pfa_cons (pf_c c_co__law_stream_2 gd (hr.mono (by decide : 1 ≤ _)) tk (pfa_cons (pf_var 0) (pfa_cons (pf_var 1) pfa_nil))) pfa_nil)))) (pb_one (pfs_ret pf_bl)) pb_nil))))
  (pb_one (pfs_ret (pf_c c_co__law_trial_1 gd (hr.mono (by decide : 4 ≤ _)) tk (pfa_cons (pf_new (pfl_lst (pfa_cons pf_int (pfa_cons pf_int (pfa_cons pf_int pfa_nil))))) pfa_nil)))))
end
section
variable {P : Program} {w : World} {K : PySem.W.Frag} {mg : Str → Option Value} {base : Heap} {f : Addr} {fd : FuncData}
theorem co__law_draw_2 (O : Fg P w K mg base 1 f fd ["_law_stream_here", "_law_limit"] (spF ⟨K, mg⟩ 2 f__law_draw)) (hm : mg "_law_draw" = some (.ref f)) (F : FunD K "_law_draw" "_law_draw" (defArgs s__law_draw) (defBody s__law_draw) (defScope s__law_draw) [] [] f fd) : CallOk P w K mg base "_law_draw" 1 2 [] (gdP [0, 1] []) f__law_draw :=
  call_all 2 [] [0, 1] O hm F (fun kV doc pm an cdv ct us ws l1 l2 => match us, l1, ws, l2 with | [a0, a1], _, [], _ => rfl)
theorem co__law_entry_1 (O : Fg P w K mg base 2 f fd ["_law_stream_here"] (spF ⟨K, mg⟩ 1 f__law_entry)) (hm : mg "_law_entry" = some (.ref f)) (F : FunD K "_law_entry" "_law_entry" (defArgs s__law_entry) (defBody s__law_entry) (defScope s__law_entry) [] [] f fd) : CallOk P w K mg base "_law_entry" 2 1 [] (gdP [0] []) f__law_entry :=
  call_all 1 [] [0] O hm F (fun kV doc pm an cdv ct us ws l1 l2 => match us, l1, ws, l2 with | [a0], _, [], _ => rfl)
theorem co__law_classes_1 (O : Fg P w K mg base 1 f fd ["_law_error"] (spF ⟨K, mg⟩ 1 f__law_classes)) (hm : mg "_law_classes" = some (.ref f)) (F : FunD K "_law_classes" "_law_classes" (defArgs s__law_classes) (defBody s__law_classes) (defScope s__law_classes) [] [] f fd) : CallOk P w K mg base "_law_classes" 1 1 [] (gdP [0] []) f__law_classes :=
  call_all 1 [] [0] O hm F (fun kV doc pm an cdv ct us ws l1 l2 => match us, l1, ws, l2 with | [a0], _, [], _ => rfl)
theorem co__law_caught_1 (O : Fg P w K mg base 3 f fd ["_law_entry_here"] (spF ⟨K, mg⟩ 1 f__law_caught)) (hm : mg "_law_caught" = some (.ref f)) (F : FunD K "_law_caught" "_law_caught" (defArgs s__law_caught) (defBody s__law_caught) (defScope s__law_caught) [] [] f fd) : CallOk P w K mg base "_law_caught" 3 1 [] (gdP [0] []) f__law_caught :=
  call_all 1 [] [0] O hm F (fun kV doc pm an cdv ct us ws l1 l2 => match us, l1, ws, l2 with | [a0], _, [], _ => rfl)
theorem co__law_attributes_hold_2 (O : Fg P w K mg base 3 f fd ["_law_entry_here", "_law_other"] (spF ⟨K, mg⟩ 2 f__law_attributes_hold)) (hm : mg "_law_attributes_hold" = some (.ref f)) (F : FunD K "_law_attributes_hold" "_law_attributes_hold" (defArgs s__law_attributes_hold) (defBody s__law_attributes_hold) (defScope s__law_attributes_hold) [] [] f fd) : CallOk P w K mg base "_law_attributes_hold" 3 2 [] (gdP [0, 1] []) f__law_attributes_hold :=
  call_all 2 [] [0, 1] O hm F (fun kV doc pm an cdv ct us ws l1 l2 => match us, l1, ws, l2 with | [a0, a1], _, [], _ => rfl)
theorem co__law_trial_1 (O : Fg P w K mg base 4 f fd ["_law_stream_here"] (spF ⟨K, mg⟩ 1 f__law_trial)) (hm : mg "_law_trial" = some (.ref f)) (F : FunD K "_law_trial" "_law_trial" (defArgs s__law_trial) (defBody s__law_trial) (defScope s__law_trial) [] [] f fd) : CallOk P w K mg base "_law_trial" 4 1 [] (gdP [0] []) f__law_trial :=
  call_all 1 [] [0] O hm F (fun kV doc pm an cdv ct us ws l1 l2 => match us, l1, ws, l2 with | [a0], _, [], _ => rfl)
theorem co__law_stream_2 (O : Fg P w K mg base 1 f fd ["_law_script", "_law_position"] (spF ⟨K, mg⟩ 2 f__law_stream)) (hm : mg "_law_stream" = some (.ref f)) (F : FunD K "_law_stream" "_law_stream" (defArgs s__law_stream) (defBody s__law_stream) (defScope s__law_stream) [] [] f fd) : CallOk P w K mg base "_law_stream" 1 2 [] (gdP [0, 1] []) f__law_stream :=
  call_all 2 [] [0, 1] O hm F (fun kV doc pm an cdv ct us ws l1 l2 => match us, l1, ws, l2 with | [a0, a1], _, [], _ => rfl)
theorem xd_CycleError_0_reason (I : InOk K mg "CycleError" ["reason"]) (F : FunD K "__init__" "CycleError.__init__" (defArgs (inClass (top 7) 0)) (defBody (inClass (top 7) 0)) (defScope (inClass (top 7) 0)) [] [] (He.fAd K ("CycleError", some "__init__")) fd) : XDef P w K mg base "CycleError" 1 0 ["reason"] ["reason"] (gdX [0]) :=
  xdef1 (self := "self") (p := "reason") (n := 0) (ks := ["reason"]) I.xc I.mg I.iC I.tI (init1 I.xc (I.no _ (by simp)) F ⟨rfl, rfl, rfl, by decide +kernel, rfl, by decide +kernel, by decide +kernel⟩ (Or.inl rfl) (Or.inl rfl) (by decide) (by decide) (by decide) (by decide)) F rfl (fun kV doc pm an cdv ct us ws l1 l2 => match us, l1, ws, l2 with | [a0], _, [b0], _ => rfl)
theorem xd_CycleError_1 (I : InOk K mg "CycleError" ["reason"]) (F : FunD K "__init__" "CycleError.__init__" (defArgs (inClass (top 7) 0)) (defBody (inClass (top 7) 0)) (defScope (inClass (top 7) 0)) [] [] (He.fAd K ("CycleError", some "__init__")) fd) : XDef P w K mg base "CycleError" 1 1 [] ["reason"] (gdX [0]) :=
  xdef1 (self := "self") (p := "reason") (n := 1) (ks := []) I.xc I.mg I.iC I.tI (init1 I.xc (I.no _ (by simp)) F ⟨rfl, rfl, rfl, by decide +kernel, rfl, by decide +kernel, by decide +kernel⟩ (Or.inl rfl) (Or.inl rfl) (by decide) (by decide) (by decide) (by decide)) F rfl (fun kV doc pm an cdv ct us ws l1 l2 => match us, l1, ws, l2 with | [a0, a1], _, [], _ => rfl)
theorem xd_InvalidAction_0_reason (I : InOk K mg "InvalidAction" ["reason"]) (F : FunD K "__init__" "InvalidAction.__init__" (defArgs (inClass (top 8) 0)) (defBody (inClass (top 8) 0)) (defScope (inClass (top 8) 0)) [] [] (He.fAd K ("InvalidAction", some "__init__")) fd) : XDef P w K mg base "InvalidAction" 1 0 ["reason"] ["reason"] (gdX [0]) :=
  xdef1 (self := "self") (p := "reason") (n := 0) (ks := ["reason"]) I.xc I.mg I.iC I.tI (init1 I.xc (I.no _ (by simp)) F ⟨rfl, rfl, rfl, by decide +kernel, rfl, by decide +kernel, by decide +kernel⟩ (Or.inl rfl) (Or.inl rfl) (by decide) (by decide) (by decide) (by decide)) F rfl (fun kV doc pm an cdv ct us ws l1 l2 => match us, l1, ws, l2 with | [a0], _, [b0], _ => rfl)
theorem xd_InvalidAction_1 (I : InOk K mg "InvalidAction" ["reason"]) (F : FunD K "__init__" "InvalidAction.__init__" (defArgs (inClass (top 8) 0)) (defBody (inClass (top 8) 0)) (defScope (inClass (top 8) 0)) [] [] (He.fAd K ("InvalidAction", some "__init__")) fd) : XDef P w K mg base "InvalidAction" 1 1 [] ["reason"] (gdX [0]) :=
  xdef1 (self := "self") (p := "reason") (n := 1) (ks := []) I.xc I.mg I.iC I.tI (init1 I.xc (I.no _ (by simp)) F ⟨rfl, rfl, rfl, by decide +kernel, rfl, by decide +kernel, by decide +kernel⟩ (Or.inl rfl) (Or.inl rfl) (by decide) (by decide) (by decide) (by decide)) F rfl (fun kV doc pm an cdv ct us ws l1 l2 => match us, l1, ws, l2 with | [a0, a1], _, [], _ => rfl)
theorem xd_InvalidCertificate_0_index_reason (I : InOk K mg "InvalidCertificate" ["reason", "index"]) (F : FunD K "__init__" "InvalidCertificate.__init__" (defArgs (inClass (top 6) 0)) (defBody (inClass (top 6) 0)) (defScope (inClass (top 6) 0)) [] [] (He.fAd K ("InvalidCertificate", some "__init__")) fd) : XDef P w K mg base "InvalidCertificate" 1 0 ["index", "reason"] ["index", "reason"] (gdX (if true then [0, 1] else [1, 0])) :=
  xdef2 (self := "self") (p := "reason") (q := "index") (n := 0) (ks := ["index", "reason"]) true I.xc I.mg I.iC I.tI (init2 I.xc (I.no _ (by simp)) (I.no _ (by simp)) F ⟨rfl, rfl, rfl, by decide +kernel, rfl, by decide +kernel, by decide +kernel⟩ (Or.inl rfl) (Or.inl rfl) (Or.inl rfl) (by decide) (by decide) (by decide) (by decide) (by decide) (by decide)) F rfl (fun kV doc pm an cdv ct us ws l1 l2 => match us, l1, ws, l2 with | [a0], _, [b0, b1], _ => rfl)
theorem xd_InvalidCertificate_2 (I : InOk K mg "InvalidCertificate" ["reason", "index"]) (F : FunD K "__init__" "InvalidCertificate.__init__" (defArgs (inClass (top 6) 0)) (defBody (inClass (top 6) 0)) (defScope (inClass (top 6) 0)) [] [] (He.fAd K ("InvalidCertificate", some "__init__")) fd) : XDef P w K mg base "InvalidCertificate" 1 2 [] ["index", "reason"] (gdX (if false then [0, 1] else [1, 0])) :=
  xdef2 (self := "self") (p := "reason") (q := "index") (n := 2) (ks := []) false I.xc I.mg I.iC I.tI (init2 I.xc (I.no _ (by simp)) (I.no _ (by simp)) F ⟨rfl, rfl, rfl, by decide +kernel, rfl, by decide +kernel, by decide +kernel⟩ (Or.inl rfl) (Or.inl rfl) (Or.inl rfl) (by decide) (by decide) (by decide) (by decide) (by decide) (by decide)) F rfl (fun kV doc pm an cdv ct us ws l1 l2 => match us, l1, ws, l2 with | [a0, a1, a2], _, [], _ => rfl)
theorem xd_InvalidPartCount_0_value (I : InOk K mg "InvalidPartCount" ["value"]) (F : FunD K "__init__" "InvalidPartCount.__init__" (defArgs (inClass (top 4) 0)) (defBody (inClass (top 4) 0)) (defScope (inClass (top 4) 0)) [] [] (He.fAd K ("InvalidPartCount", some "__init__")) fd) : XDef P w K mg base "InvalidPartCount" 1 0 ["value"] ["value"] (gdX [0]) :=
  xdef1 (self := "self") (p := "value") (n := 0) (ks := ["value"]) I.xc I.mg I.iC I.tI (init1 I.xc (I.no _ (by simp)) F ⟨rfl, rfl, rfl, by decide +kernel, rfl, by decide +kernel, by decide +kernel⟩ (Or.inl rfl) (Or.inl rfl) (by decide) (by decide) (by decide) (by decide)) F rfl (fun kV doc pm an cdv ct us ws l1 l2 => match us, l1, ws, l2 with | [a0], _, [b0], _ => rfl)
theorem xd_InvalidPartCount_1 (I : InOk K mg "InvalidPartCount" ["value"]) (F : FunD K "__init__" "InvalidPartCount.__init__" (defArgs (inClass (top 4) 0)) (defBody (inClass (top 4) 0)) (defScope (inClass (top 4) 0)) [] [] (He.fAd K ("InvalidPartCount", some "__init__")) fd) : XDef P w K mg base "InvalidPartCount" 1 1 [] ["value"] (gdX [0]) :=
  xdef1 (self := "self") (p := "value") (n := 1) (ks := []) I.xc I.mg I.iC I.tI (init1 I.xc (I.no _ (by simp)) F ⟨rfl, rfl, rfl, by decide +kernel, rfl, by decide +kernel, by decide +kernel⟩ (Or.inl rfl) (Or.inl rfl) (by decide) (by decide) (by decide) (by decide)) F rfl (fun kV doc pm an cdv ct us ws l1 l2 => match us, l1, ws, l2 with | [a0, a1], _, [], _ => rfl)
theorem xd_ParseError_0_word_line (I : InOk K mg "ParseError" ["line", "word"]) (F : FunD K "__init__" "ParseError.__init__" (defArgs (inClass (top 9) 0)) (defBody (inClass (top 9) 0)) (defScope (inClass (top 9) 0)) [] [] (He.fAd K ("ParseError", some "__init__")) fd) : XDef P w K mg base "ParseError" 1 0 ["word", "line"] ["word", "line"] (gdX (if true then [0, 1] else [1, 0])) :=
  xdef2 (self := "self") (p := "line") (q := "word") (n := 0) (ks := ["word", "line"]) true I.xc I.mg I.iC I.tI (init2 I.xc (I.no _ (by simp)) (I.no _ (by simp)) F ⟨rfl, rfl, rfl, by decide +kernel, rfl, by decide +kernel, by decide +kernel⟩ (Or.inl rfl) (Or.inl rfl) (Or.inl rfl) (by decide) (by decide) (by decide) (by decide) (by decide) (by decide)) F rfl (fun kV doc pm an cdv ct us ws l1 l2 => match us, l1, ws, l2 with | [a0], _, [b0, b1], _ => rfl)
theorem xd_ParseError_2 (I : InOk K mg "ParseError" ["line", "word"]) (F : FunD K "__init__" "ParseError.__init__" (defArgs (inClass (top 9) 0)) (defBody (inClass (top 9) 0)) (defScope (inClass (top 9) 0)) [] [] (He.fAd K ("ParseError", some "__init__")) fd) : XDef P w K mg base "ParseError" 1 2 [] ["word", "line"] (gdX (if false then [0, 1] else [1, 0])) :=
  xdef2 (self := "self") (p := "line") (q := "word") (n := 2) (ks := []) false I.xc I.mg I.iC I.tI (init2 I.xc (I.no _ (by simp)) (I.no _ (by simp)) F ⟨rfl, rfl, rfl, by decide +kernel, rfl, by decide +kernel, by decide +kernel⟩ (Or.inl rfl) (Or.inl rfl) (Or.inl rfl) (by decide) (by decide) (by decide) (by decide) (by decide) (by decide)) F rfl (fun kV doc pm an cdv ct us ws l1 l2 => match us, l1, ws, l2 with | [a0, a1, a2], _, [], _ => rfl)
theorem xd_StateMismatch_0_reason (I : InOk K mg "StateMismatch" ["reason"]) (F : FunD K "__init__" "StateMismatch.__init__" (defArgs (inClass (top 5) 0)) (defBody (inClass (top 5) 0)) (defScope (inClass (top 5) 0)) [] [] (He.fAd K ("StateMismatch", some "__init__")) fd) : XDef P w K mg base "StateMismatch" 1 0 ["reason"] ["reason"] (gdX [0]) :=
  xdef1 (self := "self") (p := "reason") (n := 0) (ks := ["reason"]) I.xc I.mg I.iC I.tI (init1 I.xc (I.no _ (by simp)) F ⟨rfl, rfl, rfl, by decide +kernel, rfl, by decide +kernel, by decide +kernel⟩ (Or.inl rfl) (Or.inl rfl) (by decide) (by decide) (by decide) (by decide)) F rfl (fun kV doc pm an cdv ct us ws l1 l2 => match us, l1, ws, l2 with | [a0], _, [b0], _ => rfl)
theorem xd_StateMismatch_1 (I : InOk K mg "StateMismatch" ["reason"]) (F : FunD K "__init__" "StateMismatch.__init__" (defArgs (inClass (top 5) 0)) (defBody (inClass (top 5) 0)) (defScope (inClass (top 5) 0)) [] [] (He.fAd K ("StateMismatch", some "__init__")) fd) : XDef P w K mg base "StateMismatch" 1 1 [] ["reason"] (gdX [0]) :=
  xdef1 (self := "self") (p := "reason") (n := 1) (ks := []) I.xc I.mg I.iC I.tI (init1 I.xc (I.no _ (by simp)) F ⟨rfl, rfl, rfl, by decide +kernel, rfl, by decide +kernel, by decide +kernel⟩ (Or.inl rfl) (Or.inl rfl) (by decide) (by decide) (by decide) (by decide)) F rfl (fun kV doc pm an cdv ct us ws l1 l2 => match us, l1, ws, l2 with | [a0, a1], _, [], _ => rfl)
theorem xd_UndoError_0_count (I : InOk K mg "UndoError" ["count"]) (F : FunD K "__init__" "UndoError.__init__" (defArgs (inClass (top 11) 0)) (defBody (inClass (top 11) 0)) (defScope (inClass (top 11) 0)) [] [] (He.fAd K ("UndoError", some "__init__")) fd) : XDef P w K mg base "UndoError" 1 0 ["count"] ["count"] (gdX [0]) :=
  xdef1 (self := "self") (p := "count") (n := 0) (ks := ["count"]) I.xc I.mg I.iC I.tI (init1 I.xc (I.no _ (by simp)) F ⟨rfl, rfl, rfl, by decide +kernel, rfl, by decide +kernel, by decide +kernel⟩ (Or.inl rfl) (Or.inl rfl) (by decide) (by decide) (by decide) (by decide)) F rfl (fun kV doc pm an cdv ct us ws l1 l2 => match us, l1, ws, l2 with | [a0], _, [b0], _ => rfl)
theorem xd_UndoError_1 (I : InOk K mg "UndoError" ["count"]) (F : FunD K "__init__" "UndoError.__init__" (defArgs (inClass (top 11) 0)) (defBody (inClass (top 11) 0)) (defScope (inClass (top 11) 0)) [] [] (He.fAd K ("UndoError", some "__init__")) fd) : XDef P w K mg base "UndoError" 1 1 [] ["count"] (gdX [0]) :=
  xdef1 (self := "self") (p := "count") (n := 1) (ks := []) I.xc I.mg I.iC I.tI (init1 I.xc (I.no _ (by simp)) F ⟨rfl, rfl, rfl, by decide +kernel, rfl, by decide +kernel, by decide +kernel⟩ (Or.inl rfl) (Or.inl rfl) (by decide) (by decide) (by decide) (by decide)) F rfl (fun kV doc pm an cdv ct us ws l1 l2 => match us, l1, ws, l2 with | [a0, a1], _, [], _ => rfl)
theorem xd_UnknownCommand_0_command (I : InOk K mg "UnknownCommand" ["command"]) (F : FunD K "__init__" "UnknownCommand.__init__" (defArgs (inClass (top 10) 0)) (defBody (inClass (top 10) 0)) (defScope (inClass (top 10) 0)) [] [] (He.fAd K ("UnknownCommand", some "__init__")) fd) : XDef P w K mg base "UnknownCommand" 1 0 ["command"] ["command"] (gdX [0]) :=
  xdef1 (self := "self") (p := "command") (n := 0) (ks := ["command"]) I.xc I.mg I.iC I.tI (init1 I.xc (I.no _ (by simp)) F ⟨rfl, rfl, rfl, by decide +kernel, rfl, by decide +kernel, by decide +kernel⟩ (Or.inl rfl) (Or.inl rfl) (by decide) (by decide) (by decide) (by decide)) F rfl (fun kV doc pm an cdv ct us ws l1 l2 => match us, l1, ws, l2 with | [a0], _, [b0], _ => rfl)
theorem xd_UnknownCommand_1 (I : InOk K mg "UnknownCommand" ["command"]) (F : FunD K "__init__" "UnknownCommand.__init__" (defArgs (inClass (top 10) 0)) (defBody (inClass (top 10) 0)) (defScope (inClass (top 10) 0)) [] [] (He.fAd K ("UnknownCommand", some "__init__")) fd) : XDef P w K mg base "UnknownCommand" 1 1 [] ["command"] (gdX [0]) :=
  xdef1 (self := "self") (p := "command") (n := 1) (ks := []) I.xc I.mg I.iC I.tI (init1 I.xc (I.no _ (by simp)) F ⟨rfl, rfl, rfl, by decide +kernel, rfl, by decide +kernel, by decide +kernel⟩ (Or.inl rfl) (Or.inl rfl) (by decide) (by decide) (by decide) (by decide)) F rfl (fun kV doc pm an cdv ct us ws l1 l2 => match us, l1, ws, l2 with | [a0, a1], _, [], _ => rfl)
end
def fn : List He.DefD := [
  ⟨("_law_stream", none), "_law_stream", "_law_stream", defArgs s__law_stream, defBody s__law_stream, defScope s__law_stream, [], []⟩,
  ⟨("_law_draw", none), "_law_draw", "_law_draw", defArgs s__law_draw, defBody s__law_draw, defScope s__law_draw, [], []⟩,
  ⟨("_law_entry", none), "_law_entry", "_law_entry", defArgs s__law_entry, defBody s__law_entry, defScope s__law_entry, [], []⟩,
  ⟨("_law_classes", none), "_law_classes", "_law_classes", defArgs s__law_classes, defBody s__law_classes, defScope s__law_classes, [], []⟩,
  ⟨("_law_caught", none), "_law_caught", "_law_caught", defArgs s__law_caught, defBody s__law_caught, defScope s__law_caught, [], []⟩,
  ⟨("_law_attributes_hold", none), "_law_attributes_hold", "_law_attributes_hold", defArgs s__law_attributes_hold, defBody s__law_attributes_hold, defScope s__law_attributes_hold, [], []⟩,
  ⟨("_law_trial", none), "_law_trial", "_law_trial", defArgs s__law_trial, defBody s__law_trial, defScope s__law_trial, [], []⟩,
  ⟨("law", none), "law", "law", defArgs s_law, defBody s_law, defScope s_law, [], []⟩,
  ⟨("CycleError", some "__init__"), "__init__", "CycleError.__init__", defArgs (inClass (top 7) 0), defBody (inClass (top 7) 0), defScope (inClass (top 7) 0), [], []⟩,
  ⟨("InvalidAction", some "__init__"), "__init__", "InvalidAction.__init__", defArgs (inClass (top 8) 0), defBody (inClass (top 8) 0), defScope (inClass (top 8) 0), [], []⟩,
  ⟨("InvalidCertificate", some "__init__"), "__init__", "InvalidCertificate.__init__", defArgs (inClass (top 6) 0), defBody (inClass (top 6) 0), defScope (inClass (top 6) 0), [], []⟩,
  ⟨("InvalidPartCount", some "__init__"), "__init__", "InvalidPartCount.__init__", defArgs (inClass (top 4) 0), defBody (inClass (top 4) 0), defScope (inClass (top 4) 0), [], []⟩,
  ⟨("ParseError", some "__init__"), "__init__", "ParseError.__init__", defArgs (inClass (top 9) 0), defBody (inClass (top 9) 0), defScope (inClass (top 9) 0), [], []⟩,
  ⟨("StateMismatch", some "__init__"), "__init__", "StateMismatch.__init__", defArgs (inClass (top 5) 0), defBody (inClass (top 5) 0), defScope (inClass (top 5) 0), [], []⟩,
  ⟨("UndoError", some "__init__"), "__init__", "UndoError.__init__", defArgs (inClass (top 11) 0), defBody (inClass (top 11) 0), defScope (inClass (top 11) 0), [], []⟩,
  ⟨("UnknownCommand", some "__init__"), "__init__", "UnknownCommand.__init__", defArgs (inClass (top 10) 0), defBody (inClass (top 10) 0), defScope (inClass (top 10) 0), [], []⟩]
def chk (K : PySem.W.Frag) : List Bool := [
  freeB K "abs",
  freeB K "enumerate",
  freeB K "isinstance",
  freeB K "len",
  freeB K "min",
  freeB K "range",
  freeB K "repr",
  freeB K "str",
  mtB K mb mx,
  gloB K "CycleError",
  isB K mb mx "CycleError" (.ref (He.ga K "CycleError")),
  gloB K "FlockError",
  isB K mb mx "FlockError" (.ref (He.ga K "FlockError")),
  freeB K "IndexError",
  isB K mb mx "IndexError" (.type "IndexError"),
  gloB K "InvalidAction",
  isB K mb mx "InvalidAction" (.ref (He.ga K "InvalidAction")),
  gloB K "InvalidCertificate",
  isB K mb mx "InvalidCertificate" (.ref (He.ga K "InvalidCertificate")),
  gloB K "InvalidPartCount",
  isB K mb mx "InvalidPartCount" (.ref (He.ga K "InvalidPartCount")),
  gloB K "InvalidState",
  isB K mb mx "InvalidState" (.ref (He.ga K "InvalidState")),
  freeB K "KeyError",
  isB K mb mx "KeyError" (.type "KeyError"),
  freeB K "LookupError",
  isB K mb mx "LookupError" (.type "LookupError"),
  gloB K "MissingError",
  isB K mb mx "MissingError" (.ref (He.ga K "MissingError")),
  gloB K "ParseError",
  isB K mb mx "ParseError" (.ref (He.ga K "ParseError")),
  gloB K "StateMismatch",
  isB K mb mx "StateMismatch" (.ref (He.ga K "StateMismatch")),
  gloB K "UndoError",
  isB K mb mx "UndoError" (.ref (He.ga K "UndoError")),
  gloB K "UnknownCommand",
  isB K mb mx "UnknownCommand" (.ref (He.ga K "UnknownCommand")),
  freeB K "ValueError",
  isB K mb mx "ValueError" (.type "ValueError"),
  freeB K "list",
  isB K mb mx "list" (.type "list"),
  exB K mx "FlockError",
  exB K mx "MissingError",
  x0B K "InvalidState",
  PF.xfB K "command" xfC_command,
  PF.xfB K "count" xfC_count,
  PF.xfB K "index" xfC_index,
  PF.xfB K "line" xfC_line,
  PF.xfB K "reason" xfC_reason,
  PF.xfB K "value" xfC_value,
  PF.xfB K "word" xfC_word,
  gloB K "_law_stream",
  gloB K "_law_draw",
  gloB K "_law_entry",
  gloB K "_law_classes",
  gloB K "_law_caught",
  gloB K "_law_attributes_hold",
  gloB K "_law_trial",
  gloB K "law",
  inB K "CycleError" ["reason"],
  inB K "InvalidAction" ["reason"],
  inB K "InvalidCertificate" ["reason", "index"],
  inB K "InvalidPartCount" ["value"],
  inB K "ParseError" ["line", "word"],
  inB K "StateMismatch" ["reason"],
  inB K "UndoError" ["count"],
  inB K "UnknownCommand" ["command"]]
def ex (K : PySem.W.Frag) : Bool := (chk K).all id
theorem chk_get {K : PySem.W.Frag} (c : ex K = true) {i : Nat} {b : Bool} (h : (chk K)[i]? = some b) : b = true := List.all_eq_true.mp c b (List.mem_of_getElem? h)
abbrev R : PySem.W.OpenRow := PySem.W.OpenLaw.row PySem.Challenge.rw_flockround_k07_exceptions_and_their_attr
abbrev hk : PySem.W.Hook := He.hookX 6 [] fn [] [] ex
def ob (s : PySem.W.SharedT) : He.AlX := He.obsX 6 [] fn [] [] ex (HandSHeadRun.getT s)
theorem ob_eq (s : PySem.W.SharedT) : ob s = hk.obs s.abs := He.obsX_eq (HandSHeadRun.getT_eq s)
def nm0 : List Str := ["FlockError", "MissingError", "InvalidState", "InvalidPartCount", "StateMismatch", "InvalidCertificate", "CycleError", "InvalidAction", "ParseError", "UnknownCommand", "UndoError", "_law_stream", "_law_draw", "_law_entry", "_law_classes", "_law_caught", "_law_attributes_hold", "_law_trial"]
def nms : List Str := nm0
set_option maxHeartbeats 0 in
theorem run (w : World) : HandSHeadRun.RunEq R (PySem.W.view R.prog [20]) hk ob 4000 nms w := by
  intro os
  kernel_rfl
theorem all {P : Program} {w : World} {K : PySem.W.Frag} {h : Heap} {mg : Str → Option Value} {fa : Addr} (X : K.In h) (G : h.Ns mainGlobals mg) (hfa : mg ("law" : Str) = some (.ref fa)) (c : He.SaysX [] fn [] [] ex w h K) :
    ∃ fd : FuncData, (∀ (s : Shared) (v : Value), BindsTo s fd ⟨[v], []⟩ [("_law_script", v)]) ∧ ∀ base : Heap, K.In base → base.Ns mainGlobals mg → Fg P w K mg base 5 fa fd ["_law_script"] (spF ⟨K, mg⟩ 1 f_law) := by
  have sd := c.t.d
  have ch : ∀ (i : Nat) {b : Bool}, (chk K)[i]? = some b → b = true := fun i b h => chk_get c.more h
  have t_b_abs : mg "abs" = none := free_mg X G (ch 0 rfl)
  have t_b_enumerate : mg "enumerate" = none := free_mg X G (ch 1 rfl)
  have t_b_isinstance : mg "isinstance" = none := free_mg X G (ch 2 rfl)
  have t_b_len : mg "len" = none := free_mg X G (ch 3 rfl)
  have t_b_min : mg "min" = none := free_mg X G (ch 4 rfl)
  have t_b_range : mg "range" = none := free_mg X G (ch 5 rfl)
  have t_b_repr : mg "repr" = none := free_mg X G (ch 6 rfl)
  have t_b_str : mg "str" = none := free_mg X G (ch 7 rfl)
  have t_mt : MtOk K mg mb mx := mt_ok X G (ch 8 rfl)
  have t_cls_CycleError : ClsA K mg mb mx "CycleError" := clsA_own X G (by decide) (ch 9 rfl) (ch 10 rfl)
  have t_cls_FlockError : ClsA K mg mb mx "FlockError" := clsA_own X G (by decide) (ch 11 rfl) (ch 12 rfl)
  have t_cls_IndexError : ClsA K mg mb mx "IndexError" := clsA_blt (n := "IndexError") X G (by decide) (ch 13 rfl) (by decide +kernel) (by decide) (ch 14 rfl)
  have t_cls_InvalidAction : ClsA K mg mb mx "InvalidAction" := clsA_own X G (by decide) (ch 15 rfl) (ch 16 rfl)
  have t_cls_InvalidCertificate : ClsA K mg mb mx "InvalidCertificate" := clsA_own X G (by decide) (ch 17 rfl) (ch 18 rfl)
  have t_cls_InvalidPartCount : ClsA K mg mb mx "InvalidPartCount" := clsA_own X G (by decide) (ch 19 rfl) (ch 20 rfl)
  have t_cls_InvalidState : ClsA K mg mb mx "InvalidState" := clsA_own X G (by decide) (ch 21 rfl) (ch 22 rfl)
  have t_cls_KeyError : ClsA K mg mb mx "KeyError" := clsA_blt (n := "KeyError") X G (by decide) (ch 23 rfl) (by decide +kernel) (by decide) (ch 24 rfl)
  have t_cls_LookupError : ClsA K mg mb mx "LookupError" := clsA_blt (n := "LookupError") X G (by decide) (ch 25 rfl) (by decide +kernel) (by decide) (ch 26 rfl)
  have t_cls_MissingError : ClsA K mg mb mx "MissingError" := clsA_own X G (by decide) (ch 27 rfl) (ch 28 rfl)
  have t_cls_ParseError : ClsA K mg mb mx "ParseError" := clsA_own X G (by decide) (ch 29 rfl) (ch 30 rfl)
  have t_cls_StateMismatch : ClsA K mg mb mx "StateMismatch" := clsA_own X G (by decide) (ch 31 rfl) (ch 32 rfl)
  have t_cls_UndoError : ClsA K mg mb mx "UndoError" := clsA_own X G (by decide) (ch 33 rfl) (ch 34 rfl)
  have t_cls_UnknownCommand : ClsA K mg mb mx "UnknownCommand" := clsA_own X G (by decide) (ch 35 rfl) (ch 36 rfl)
  have t_cls_ValueError : ClsA K mg mb mx "ValueError" := clsA_blt (n := "ValueError") X G (by decide) (ch 37 rfl) (by decide +kernel) (by decide) (ch 38 rfl)
  have t_cls_list : ClsA K mg mb mx "list" := clsA_blt (n := "list") X G (by decide) (ch 39 rfl) (by decide +kernel) (by decide) (ch 40 rfl)
  have t_ex_FlockError : ExG K mg mx "FlockError" := ex_ok X G (by decide) (ch 41 rfl)
  have t_ex_MissingError : ExG K mg mx "MissingError" := ex_ok X G (by decide) (ch 42 rfl)
  have t_xd0_InvalidState : XDef0 K mg "InvalidState" := x0_ok X G (ch 43 rfl)
  have t_xf_command : XfOk K mg "command" xfC_command := xf_ok X G (ch 44 rfl)
  have t_xf_count : XfOk K mg "count" xfC_count := xf_ok X G (ch 45 rfl)
  have t_xf_index : XfOk K mg "index" xfC_index := xf_ok X G (ch 46 rfl)
  have t_xf_line : XfOk K mg "line" xfC_line := xf_ok X G (ch 47 rfl)
  have t_xf_reason : XfOk K mg "reason" xfC_reason := xf_ok X G (ch 48 rfl)
  have t_xf_value : XfOk K mg "value" xfC_value := xf_ok X G (ch 49 rfl)
  have t_xf_word : XfOk K mg "word" xfC_word := xf_ok X G (ch 50 rfl)
  have T : Txt K mg := ⟨t_b_abs, t_b_enumerate, t_b_isinstance, t_b_len, t_b_min, t_b_range, t_b_repr, t_b_str, t_mt, t_cls_CycleError, t_cls_FlockError, t_cls_IndexError, t_cls_InvalidAction, t_cls_InvalidCertificate, t_cls_InvalidPartCount, t_cls_InvalidState, t_cls_KeyError, t_cls_LookupError, t_cls_MissingError, t_cls_ParseError, t_cls_StateMismatch, t_cls_UndoError, t_cls_UnknownCommand, t_cls_ValueError, t_cls_list, t_ex_FlockError, t_ex_MissingError, t_xd0_InvalidState, t_xf_command, t_xf_count, t_xf_index, t_xf_line, t_xf_reason, t_xf_value, t_xf_word⟩
  obtain ⟨fd__law_stream, F__law_stream⟩ := sd.def_ 0
  have F__law_stream : FunD K "_law_stream" "_law_stream" (defArgs s__law_stream) (defBody s__law_stream) (defScope s__law_stream) [] [] (He.ga K "_law_stream") fd__law_stream := F__law_stream
  have m__law_stream : mg "_law_stream" = some (.ref (He.ga K "_law_stream")) := glo_mg X G (ch 51 rfl)
  obtain ⟨fd__law_draw, F__law_draw⟩ := sd.def_ 1
  have F__law_draw : FunD K "_law_draw" "_law_draw" (defArgs s__law_draw) (defBody s__law_draw) (defScope s__law_draw) [] [] (He.ga K "_law_draw") fd__law_draw := F__law_draw
  have m__law_draw : mg "_law_draw" = some (.ref (He.ga K "_law_draw")) := glo_mg X G (ch 52 rfl)
  obtain ⟨fd__law_entry, F__law_entry⟩ := sd.def_ 2
  have F__law_entry : FunD K "_law_entry" "_law_entry" (defArgs s__law_entry) (defBody s__law_entry) (defScope s__law_entry) [] [] (He.ga K "_law_entry") fd__law_entry := F__law_entry
  have m__law_entry : mg "_law_entry" = some (.ref (He.ga K "_law_entry")) := glo_mg X G (ch 53 rfl)
  obtain ⟨fd__law_classes, F__law_classes⟩ := sd.def_ 3
  have F__law_classes : FunD K "_law_classes" "_law_classes" (defArgs s__law_classes) (defBody s__law_classes) (defScope s__law_classes) [] [] (He.ga K "_law_classes") fd__law_classes := F__law_classes
  have m__law_classes : mg "_law_classes" = some (.ref (He.ga K "_law_classes")) := glo_mg X G (ch 54 rfl)
  obtain ⟨fd__law_caught, F__law_caught⟩ := sd.def_ 4
  have F__law_caught : FunD K "_law_caught" "_law_caught" (defArgs s__law_caught) (defBody s__law_caught) (defScope s__law_caught) [] [] (He.ga K "_law_caught") fd__law_caught := F__law_caught
  have m__law_caught : mg "_law_caught" = some (.ref (He.ga K "_law_caught")) := glo_mg X G (ch 55 rfl)
  obtain ⟨fd__law_attributes_hold, F__law_attributes_hold⟩ := sd.def_ 5
  have F__law_attributes_hold : FunD K "_law_attributes_hold" "_law_attributes_hold" (defArgs s__law_attributes_hold) (defBody s__law_attributes_hold) (defScope s__law_attributes_hold) [] [] (He.ga K "_law_attributes_hold") fd__law_attributes_hold := F__law_attributes_hold
  have m__law_attributes_hold : mg "_law_attributes_hold" = some (.ref (He.ga K "_law_attributes_hold")) := glo_mg X G (ch 56 rfl)
  obtain ⟨fd__law_trial, F__law_trial⟩ := sd.def_ 6
  have F__law_trial : FunD K "_law_trial" "_law_trial" (defArgs s__law_trial) (defBody s__law_trial) (defScope s__law_trial) [] [] (He.ga K "_law_trial") fd__law_trial := F__law_trial
  have m__law_trial : mg "_law_trial" = some (.ref (He.ga K "_law_trial")) := glo_mg X G (ch 57 rfl)
  obtain ⟨fd_law, F_law⟩ := sd.def_ 7
  have F_law : FunD K "law" "law" (defArgs s_law) (defBody s_law) (defScope s_law) [] [] (He.ga K "law") fd_law := F_law
  have m_law : mg "law" = some (.ref (He.ga K "law")) := glo_mg X G (ch 58 rfl)
  obtain ⟨fi_CycleError, I_CycleError⟩ := sd.def_ 8
  have i_CycleError := in_ok X G (ch 59 rfl)
  obtain ⟨fi_InvalidAction, I_InvalidAction⟩ := sd.def_ 9
  have i_InvalidAction := in_ok X G (ch 60 rfl)
  obtain ⟨fi_InvalidCertificate, I_InvalidCertificate⟩ := sd.def_ 10
  have i_InvalidCertificate := in_ok X G (ch 61 rfl)
  obtain ⟨fi_InvalidPartCount, I_InvalidPartCount⟩ := sd.def_ 11
  have i_InvalidPartCount := in_ok X G (ch 62 rfl)
  obtain ⟨fi_ParseError, I_ParseError⟩ := sd.def_ 12
  have i_ParseError := in_ok X G (ch 63 rfl)
  obtain ⟨fi_StateMismatch, I_StateMismatch⟩ := sd.def_ 13
  have i_StateMismatch := in_ok X G (ch 64 rfl)
  obtain ⟨fi_UndoError, I_UndoError⟩ := sd.def_ 14
  have i_UndoError := in_ok X G (ch 65 rfl)
  obtain ⟨fi_UnknownCommand, I_UnknownCommand⟩ := sd.def_ 15
  have i_UnknownCommand := in_ok X G (ch 66 rfl)
  have e := hfa.symm.trans m_law
  cases e
  refine ⟨fd_law, fun s v => FunD.bindsA (ps := ["_law_script"]) F_law (fun _ _ _ _ _ _ us hl => match us, hl with | [_], _ => rfl) s [v] rfl, fun base _ _ => ?_⟩
  have c_xd_CycleError_0_reason : XDef P w K mg base "CycleError" 1 0 ["reason"] ["reason"] (gdX [0]) := xd_CycleError_0_reason i_CycleError I_CycleError
  have c_xd_CycleError_1 : XDef P w K mg base "CycleError" 1 1 [] ["reason"] (gdX [0]) := xd_CycleError_1 i_CycleError I_CycleError
  have c_xd_InvalidAction_0_reason : XDef P w K mg base "InvalidAction" 1 0 ["reason"] ["reason"] (gdX [0]) := xd_InvalidAction_0_reason i_InvalidAction I_InvalidAction
  have c_xd_InvalidAction_1 : XDef P w K mg base "InvalidAction" 1 1 [] ["reason"] (gdX [0]) := xd_InvalidAction_1 i_InvalidAction I_InvalidAction
  have c_xd_InvalidCertificate_0_index_reason : XDef P w K mg base "InvalidCertificate" 1 0 ["index", "reason"] ["index", "reason"] (gdX (if true then [0, 1] else [1, 0])) := xd_InvalidCertificate_0_index_reason i_InvalidCertificate I_InvalidCertificate
  have c_xd_InvalidCertificate_2 : XDef P w K mg base "InvalidCertificate" 1 2 [] ["index", "reason"] (gdX (if false then [0, 1] else [1, 0])) := xd_InvalidCertificate_2 i_InvalidCertificate I_InvalidCertificate
  have c_xd_InvalidPartCount_0_value : XDef P w K mg base "InvalidPartCount" 1 0 ["value"] ["value"] (gdX [0]) := xd_InvalidPartCount_0_value i_InvalidPartCount I_InvalidPartCount
  have c_xd_InvalidPartCount_1 : XDef P w K mg base "InvalidPartCount" 1 1 [] ["value"] (gdX [0]) := xd_InvalidPartCount_1 i_InvalidPartCount I_InvalidPartCount
  have c_xd_ParseError_0_word_line : XDef P w K mg base "ParseError" 1 0 ["word", "line"] ["word", "line"] (gdX (if true then [0, 1] else [1, 0])) := xd_ParseError_0_word_line i_ParseError I_ParseError
  have c_xd_ParseError_2 : XDef P w K mg base "ParseError" 1 2 [] ["word", "line"] (gdX (if false then [0, 1] else [1, 0])) := xd_ParseError_2 i_ParseError I_ParseError
  have c_xd_StateMismatch_0_reason : XDef P w K mg base "StateMismatch" 1 0 ["reason"] ["reason"] (gdX [0]) := xd_StateMismatch_0_reason i_StateMismatch I_StateMismatch
  have c_xd_StateMismatch_1 : XDef P w K mg base "StateMismatch" 1 1 [] ["reason"] (gdX [0]) := xd_StateMismatch_1 i_StateMismatch I_StateMismatch
  have c_xd_UndoError_0_count : XDef P w K mg base "UndoError" 1 0 ["count"] ["count"] (gdX [0]) := xd_UndoError_0_count i_UndoError I_UndoError
  have c_xd_UndoError_1 : XDef P w K mg base "UndoError" 1 1 [] ["count"] (gdX [0]) := xd_UndoError_1 i_UndoError I_UndoError
  have c_xd_UnknownCommand_0_command : XDef P w K mg base "UnknownCommand" 1 0 ["command"] ["command"] (gdX [0]) := xd_UnknownCommand_0_command i_UnknownCommand I_UnknownCommand
  have c_xd_UnknownCommand_1 : XDef P w K mg base "UnknownCommand" 1 1 [] ["command"] (gdX [0]) := xd_UnknownCommand_1 i_UnknownCommand I_UnknownCommand
  have o__law_stream : Fg P w K mg base 1 (He.ga K "_law_stream") fd__law_stream ["_law_script", "_law_position"] (spF ⟨K, mg⟩ 2 f__law_stream) := fn_ok F__law_stream sc__law_stream fun cdv A outer s H E anc gd hr => pb__law_stream T  gd hr
  have c_co__law_stream_2 : CallOk P w K mg base "_law_stream" 1 2 [] (gdP [0, 1] []) f__law_stream := co__law_stream_2 o__law_stream m__law_stream F__law_stream
  have o__law_draw : Fg P w K mg base 1 (He.ga K "_law_draw") fd__law_draw ["_law_stream_here", "_law_limit"] (spF ⟨K, mg⟩ 2 f__law_draw) := fn_ok F__law_draw sc__law_draw fun cdv A outer s H E anc gd hr => pb__law_draw T  gd hr
  have c_co__law_draw_2 : CallOk P w K mg base "_law_draw" 1 2 [] (gdP [0, 1] []) f__law_draw := co__law_draw_2 o__law_draw m__law_draw F__law_draw
  have o__law_entry : Fg P w K mg base 2 (He.ga K "_law_entry") fd__law_entry ["_law_stream_here"] (spF ⟨K, mg⟩ 1 f__law_entry) := fn_ok F__law_entry sc__law_entry fun cdv A outer s H E anc gd hr => pb__law_entry T c_co__law_draw_2 gd hr
  have c_co__law_entry_1 : CallOk P w K mg base "_law_entry" 2 1 [] (gdP [0] []) f__law_entry := co__law_entry_1 o__law_entry m__law_entry F__law_entry
  have o__law_classes : Fg P w K mg base 1 (He.ga K "_law_classes") fd__law_classes ["_law_error"] (spF ⟨K, mg⟩ 1 f__law_classes) := fn_ok F__law_classes sc__law_classes fun cdv A outer s H E anc gd hr => pb__law_classes T  gd hr
  have c_co__law_classes_1 : CallOk P w K mg base "_law_classes" 1 1 [] (gdP [0] []) f__law_classes := co__law_classes_1 o__law_classes m__law_classes F__law_classes
  have o__law_caught : Fg P w K mg base 3 (He.ga K "_law_caught") fd__law_caught ["_law_entry_here"] (spF ⟨K, mg⟩ 1 f__law_caught) := fn_ok F__law_caught sc__law_caught fun cdv A outer s H E anc gd hr => pb__law_caught T c_xd_InvalidAction_1 c_xd_UndoError_1 gd hr
  have c_co__law_caught_1 : CallOk P w K mg base "_law_caught" 3 1 [] (gdP [0] []) f__law_caught := co__law_caught_1 o__law_caught m__law_caught F__law_caught
  have o__law_attributes_hold : Fg P w K mg base 3 (He.ga K "_law_attributes_hold") fd__law_attributes_hold ["_law_entry_here", "_law_other"] (spF ⟨K, mg⟩ 2 f__law_attributes_hold) := fn_ok F__law_attributes_hold sc__law_attributes_hold fun cdv A outer s H E anc gd hr => pb__law_attributes_hold T c_xd_CycleError_0_reason c_xd_CycleError_1 c_xd_InvalidAction_0_reason c_xd_InvalidAction_1 c_xd_InvalidCertificate_0_index_reason c_xd_InvalidCertificate_2 c_xd_InvalidPartCount_0_value c_xd_InvalidPartCount_1 c_xd_ParseError_0_word_line c_xd_ParseError_2 c_xd_StateMismatch_0_reason c_xd_StateMismatch_1 c_xd_UndoError_0_count c_xd_UndoError_1 c_xd_UnknownCommand_0_command c_xd_UnknownCommand_1 gd hr
  have c_co__law_attributes_hold_2 : CallOk P w K mg base "_law_attributes_hold" 3 2 [] (gdP [0, 1] []) f__law_attributes_hold := co__law_attributes_hold_2 o__law_attributes_hold m__law_attributes_hold F__law_attributes_hold
  have o__law_trial : Fg P w K mg base 4 (He.ga K "_law_trial") fd__law_trial ["_law_stream_here"] (spF ⟨K, mg⟩ 1 f__law_trial) := fn_ok F__law_trial sc__law_trial fun cdv A outer s H E anc gd hr => pb__law_trial T c_co__law_attributes_hold_2 c_co__law_caught_1 c_co__law_classes_1 c_co__law_entry_1 c_xd_CycleError_1 c_xd_InvalidAction_1 c_xd_InvalidCertificate_2 c_xd_InvalidPartCount_1 c_xd_ParseError_2 c_xd_StateMismatch_1 c_xd_UndoError_1 c_xd_UnknownCommand_1 gd hr
  have c_co__law_trial_1 : CallOk P w K mg base "_law_trial" 4 1 [] (gdP [0] []) f__law_trial := co__law_trial_1 o__law_trial m__law_trial F__law_trial
  have o_law : Fg P w K mg base 5 (He.ga K "law") fd_law ["_law_script"] (spF ⟨K, mg⟩ 1 f_law) := fn_ok F_law sc_law fun cdv A outer s H E anc gd hr => pb_law T c_co__law_stream_2 c_co__law_trial_1 gd hr
  exact o_law
end K07

namespace K07
open PySem L2 PF
theorem draw_spec (S : Sto) (n : Nat) (a b c k : Int) (hS : S[n]? = some (.lst [.int a, .int b, .int c])) (ha : 0 ≤ a) (hb : 0 ≤ b ∧ b < 2147483648) (hc : 0 ≤ c ∧ c ≤ 1000) (hk : 2 ≤ k ∧ k ≤ 1000) :
    ∃ r a' c' : Int, f__law_draw [.ref n, .int k] S = .ok (.int r) (S.set n (.lst [.int a', .int b, .int c'])) ∧ 0 ≤ r ∧ r < k ∧ 0 ≤ a' ∧ c ≤ c' ∧ c' ≤ c + 1 := by
  have hn : n < S.length := (List.getElem?_eq_some_iff.mp hS).1
  have k0 : k ≠ 0 := by omega
  have k1 : k.natAbs < 1073741824 := by omega
  have r0 : ∀ e, sBin gIx (sVar 0) (sC (.int 0)) (some (.val (.ref n)) :: e) S = .ok (.int a) S := fun e => ev_op (ev_var rfl) rfl (g_ixr hS rfl)
  by_cases h : 0 < a
  · refine ⟨a.fmod k, a.fdiv k, c, run_rt (ev_seq_rt ((ev_ifT (ev_tst ((ev_op (r0 _) rfl g_gt).trans (by rw [decide_eq_true h])))).trans
      ((ev_seq (ev_set (ev_op (r0 _) (ev_var rfl) (g_mod k0)))).trans ((ev_seq (ev_setIx (ev_op (r0 _) (ev_var rfl) (g_div k0 k1)) (ev_var rfl) rfl (setS_eq hS rfl))).trans (ev_ret (ev_var rfl)))))), ?_, ?_, ?_, ?_, ?_⟩
    · exact Int.fmod_nonneg_of_pos _ (by omega)
    · exact Int.fmod_lt_of_pos _ (by omega)
    · rw [Int.fdiv_eq_ediv_of_nonneg _ (by omega)]; exact Int.ediv_nonneg ha (by omega)
    · omega
    · omega
  · have h2 : (S.set n (.lst [.int a, .int b, .int (c + 1)]))[n]? = some (.lst [.int a, .int b, .int (c + 1)]) := List.getElem?_set_self hn
    obtain ⟨m1, hm1⟩ : ∃ m, m = (b + 26339 * (c + 1) * (c + 1) + 90001 * (c + 1)).fmod 2147483647 := ⟨_, rfl⟩
    have p1 : 0 ≤ m1 ∧ m1 < 2147483647 := by rw [hm1]; exact ⟨Int.fmod_nonneg_of_pos _ (by decide), Int.fmod_lt_of_pos _ (by decide)⟩
    obtain ⟨m2, hm2⟩ : ∃ m, m = (m1 * m1 + 50021 * m1 + (c + 1)).fmod 2147483587 := ⟨_, rfl⟩
    have p2 : 0 ≤ m2 ∧ m2 < 2147483587 := by rw [hm2]; exact ⟨Int.fmod_nonneg_of_pos _ (by decide), Int.fmod_lt_of_pos _ (by decide)⟩
    obtain ⟨m3, hm3⟩ : ∃ m, m = (m2 * m2 + 30011 * m2).fmod 2147483563 := ⟨_, rfl⟩
    refine ⟨(m3.fdiv 32).fmod k, a, c + 1, run_rt ((ev_seq ((ev_ifF (ev_tst ((ev_op (r0 _) rfl g_gt).trans (by rw [decide_eq_false h])))).trans rfl)).trans
      ((ev_seq (ev_set (ev_op (ev_op (ev_var rfl) rfl (g_ixr hS rfl)) rfl g_add))).trans
      ((ev_seq (ev_setIx (ev_var rfl) (ev_var rfl) rfl (setS_eq hS rfl))).trans
      ((ev_seq (ev_set (d := .int m1) (ev_op (ev_op (ev_op (ev_op (ev_var rfl) rfl (g_ixr h2 rfl)) (ev_op (ev_op rfl (ev_var rfl) (g_mul (cMul_l (by decide)))) (ev_var rfl) (g_mul (cMul_r (by omega)))) g_add) (ev_op rfl (ev_var rfl) (g_mul (cMul_l (by decide)))) g_add) rfl ((g_mod (by decide)).trans (by rw [hm1]))))).trans
      ((ev_seq (ev_set (d := .int m2) (ev_op (ev_op (ev_op (ev_op (ev_var rfl) (ev_var rfl) (g_mul (cMul_l (by omega)))) (ev_op rfl (ev_var rfl) (g_mul (cMul_l (by decide)))) g_add) (ev_var rfl) g_add) rfl ((g_mod (by decide)).trans (by rw [hm2]))))).trans
      ((ev_seq (ev_set (d := .int m3) (ev_op (ev_op (ev_op (ev_var rfl) (ev_var rfl) (g_mul (cMul_l (by omega)))) (ev_op rfl (ev_var rfl) (g_mul (cMul_l (by decide)))) g_add) rfl ((g_mod (by decide)).trans (by rw [hm3]))))).trans
      (ev_ret (ev_op (ev_op (ev_var rfl) rfl (g_div (by decide) (by decide))) (ev_var rfl) (g_mod k0))))))))), ?_, ?_, ?_, ?_, ?_⟩
    · exact Int.fmod_nonneg_of_pos _ (by omega)
    · exact Int.fmod_lt_of_pos _ (by omega)
    · exact ha
    · omega
    · omega
end K07

namespace K07
open PySem L2 PF
theorem stream_spec (ns : List Int) (p : Nat) (S : Sto) (hp : p < ns.length) : ∃ a b : Int, 0 ≤ a ∧ (0 ≤ b ∧ b < 2147483648) ∧ f__law_stream [.scr ns, .int p] S = .ok (.ref S.length) (S ++ [.lst [.int a, .int b, .int 0]]) := by
  obtain ⟨x, hx⟩ : ∃ x, ns[p]? = some x := ⟨ns[p], List.getElem?_eq_getElem hp⟩
  have hm : (ns.map D.int)[p]? = some (.int x) := by rw [List.getElem?_map, hx]; rfl
  have hl : decide ((p : Int) < ((ns.map D.int).length : Nat)) = true := by rw [List.length_map]; exact decide_eq_true (by omega)
  obtain ⟨y, hy, hy0⟩ : ∃ y : Int, y = (if x < 0 then -x else x) ∧ 0 ≤ y := ⟨_, rfl, by split <;> omega⟩
  have key : ∀ a : Int, (if decide (y < 10 ^ 18) then (.nx [some (.val (.scr ns)), some (.val (.int p)), some (.val (.int x)), some (.val (.int 0))] S : O) else .nx [some (.val (.scr ns)), some (.val (.int p)), some (.val (.int x)), some (.val (.int y))] S) = .nx [some (.val (.scr ns)), some (.val (.int p)), some (.val (.int x)), some (.val (.int a))] S → f__law_stream [.scr ns, .int p] S = .ok (.ref S.length) (S ++ [.lst [.int a, .int ((x.fmod 2147483399 * 40503 + 52021 * (p : Int) + 71).fmod 2147483399), .int 0]]) := fun a ha =>
    run_rt ((ev_seq (ev_set rfl)).trans
      ((ev_seq ((ev_ifT (ev_tst ((ev_op (ev_var rfl) (ev_b (ev_cons (ev_var rfl) rfl) rfl) g_lt).trans (by rw [hl])))).trans (ev_set (ev_op (ev_var rfl) (ev_var rfl) (g_ixs (L2.atI_nat hm)))))).trans
      ((ev_seq (ev_set (d := .int y) ((ev_b (ev_cons (ev_var rfl) rfl) rfl).trans (by rw [hy]; rfl)))).trans
      ((ev_seq (env' := [some (.val (.scr ns)), some (.val (.int p)), some (.val (.int x)), some (.val (.int a))]) (S' := S) ((ev_if (ev_tst (ev_op (ev_var rfl) (ev_op rfl rfl rfl) g_lt))).trans ((show _ = (if decide (y < 10 ^ 18) then _ else _) from rfl).trans ha))).trans
      (ev_ret (ev_new (ev_lst (ev_cons (ev_var rfl) (ev_cons (ev_op (ev_op (ev_op (ev_op (ev_op (ev_var rfl) rfl (g_mod (by decide))) rfl (g_mul (cMul_r (by decide)))) (ev_op rfl (ev_var rfl) (g_mul (cMul_l (by decide)))) g_add) rfl g_add) rfl (g_mod (by decide))) (ev_cons rfl rfl))) rfl)))))))
  have hb : ∀ z : Int, 0 ≤ z.fmod 2147483399 ∧ z.fmod 2147483399 < 2147483648 := fun z => ⟨Int.fmod_nonneg_of_pos _ (by decide), Int.lt_trans (Int.fmod_lt_of_pos _ (by decide)) (by decide)⟩
  by_cases h : y < 10 ^ 18
  · exact ⟨0, _, by decide, hb _, key 0 (by rw [decide_eq_true h]; rfl)⟩
  · exact ⟨y, _, hy0, hb _, key y (by rw [decide_eq_false h]; rfl)⟩
end K07

namespace K07
open PySem L2 PF
/-- the values among which an entry is drawn; m: where the list stands -/
def vals (z : Int) (m : Nat) : List D := [.int z, .str (toString z), .tup [.int z, .str "a"], .non, .bl (decide (z = 7)), .str "", .tup [], .ref m, .tup [.str "a", .tup [.str "b", .int z]]]
def lz (z : Int) : MO := .lst [.int z, .lst [.str "b"]]
def Zs (z : Int) : Prop := z = 0 ∨ z = 7 ∨ z = -3 ∨ z = 10 ^ 60
theorem zs_log {z : Int} (h : Zs z) : decide (z.natAbs.log2 < 1920) = true := by
  rcases h with rfl | rfl | rfl | rfl <;> decide +kernel
theorem atI_int {α : Type} {xs : List α} {r : Int} {x : α} (h0 : 0 ≤ r) (h : xs[r.toNat]? = some x) : atI xs r = some x := by
  have := L2.atI_nat h
  rwa [Int.toNat_of_nonneg h0] at this
theorem entry_spec (S : Sto) (n : Nat) (a b c : Int) (hS : S[n]? = some (.lst [.int a, .int b, .int c])) (ha : 0 ≤ a) (hb : 0 ≤ b ∧ b < 2147483648) (hc : 0 ≤ c ∧ c ≤ 900) :
    ∃ (z a' c' : Int) (d : D), Zs z ∧ d ∈ vals z S.length ∧ f__law_entry [.ref n] S = .ok d (S.set n (.lst [.int a', .int b, .int c']) ++ [lz z]) ∧ 0 ≤ a' ∧ c ≤ c' ∧ c' ≤ c + 2 := by
  have hn : n < S.length := (List.getElem?_eq_some_iff.mp hS).1
  obtain ⟨r1, a1, c1, e1, r10, r14, a10, c10, c11⟩ := draw_spec S n a b c 4 hS ha hb (by omega) (by omega)
  obtain ⟨z, hz, ez⟩ : ∃ z, Zs z ∧ atI [D.int 0, D.int 7, D.int (0 - 3), D.int (10 ^ 60)] r1 = some (.int z) := by
    rcases (by omega : r1 = 0 ∨ r1 = 1 ∨ r1 = 2 ∨ r1 = 3) with rfl | rfl | rfl | rfl
    · exact ⟨0, .inl rfl, rfl⟩
    · exact ⟨7, .inr (.inl rfl), rfl⟩
    · exact ⟨-3, .inr (.inr (.inl rfl)), rfl⟩
    · exact ⟨10 ^ 60, .inr (.inr (.inr rfl)), rfl⟩
  have h1 : (S.set n (.lst [.int a1, .int b, .int c1]) ++ [lz z])[n]? = some (.lst [.int a1, .int b, .int c1]) := by
    rw [List.getElem?_append_left (by rw [List.length_set]; exact hn)]
    exact List.getElem?_set_self hn
  obtain ⟨r2, a2, c2, e2, r20, r29, a20, c20, c21⟩ := draw_spec _ n a1 b c1 9 h1 a10 hb (by omega) (by omega)
  have el : (vals z S.length).length = 9 := rfl
  refine ⟨z, a2, c2, (vals z S.length)[r2.toNat]'(by omega), hz, List.getElem_mem _, ?_, a20, by omega, by omega⟩
  have eS : (S.set n (.lst [.int a1, .int b, .int c1]) ++ [lz z]).set n (.lst [.int a2, .int b, .int c2]) = S.set n (.lst [.int a2, .int b, .int c2]) ++ [lz z] := by
    rw [List.set_append_left _ _ (by rw [List.length_set]; exact hn), List.set_set]
  rw [eS] at e2
  have len1 : (S.set n (.lst [.int a1, .int b, .int c1])).length = S.length := List.length_set
  have str : ∀ S' : Sto, gStr S' [.int z] = .ok (.str (toString z)) S' := fun S' => by
    show (if decide (z.natAbs.log2 < 1920) = true then _ else _) = _
    rw [if_pos (zs_log hz)]
  have vv : ∀ S' : Sto, S'.length = S.length → sLst (sCons (sVar 1) (sCons (sB gStr (sCons (sVar 1) sNil)) (sCons (sTup (sCons (sVar 1) (sCons (sC (.str "a")) sNil))) (sCons (sC .non) (sCons (sBin gEq (sVar 1) (sC (.int 7))) (sCons (sC (.str "")) (sCons (sTup sNil) (sCons (sNew (sLst (sCons (sVar 1) (sCons (sVal (sLst (sCons (sC (.str "b")) sNil))) sNil)))) (sCons (sTup (sCons (sC (.str "a")) (sCons (sTup (sCons (sC (.str "b")) (sCons (sVar 1) sNil))) sNil))) sNil)))))))))
      [some (.val (.ref n)), some (.val (.int z)), none] S' = .ok (.lst (vals z S.length)) (S' ++ [lz z]) := fun S' h => by
    rw [← h]
    exact ev_lst (ev_cons (ev_var rfl) (ev_cons (ev_b (ev_cons (ev_var rfl) rfl) (str _)) (ev_cons rfl (ev_cons rfl (ev_cons rfl (ev_cons rfl (ev_cons rfl (ev_cons (ev_new (ev_lst (ev_cons (ev_var rfl) (ev_cons rfl rfl)) rfl)) (ev_cons rfl rfl))))))))) rfl
  exact run_rt ((ev_seq (ev_set (ev_op (ev_val (ev_lst (ev_cons rfl (ev_cons rfl (ev_cons rfl (ev_cons rfl rfl)))) rfl)) ((ev_call (ev_cons (ev_var rfl) (ev_cons rfl rfl)) rfl (by exact ⟨rfl, rfl⟩)).trans e1) (g_ixl ez)))).trans
    ((ev_seq (ev_set (ev_val (vv _ len1)))).trans (ev_ret (ev_op (ev_var rfl) ((ev_call (ev_cons (ev_var rfl) (ev_cons rfl rfl)) rfl (by exact ⟨rfl, rfl⟩)).trans e2) (g_ixl (atI_int r20 (List.getElem?_eq_getElem _)))))))
end K07

namespace K07
open PySem L2 PF
/-- the errors of a trial -/
def errs (e o : D) : List D := [.exn "InvalidState" [] [], .exn "InvalidPartCount" ["value"] [e], .exn "StateMismatch" ["reason"] [e], .exn "InvalidCertificate" ["index", "reason"] [o, e], .exn "CycleError" ["reason"] [e], .exn "InvalidAction" ["reason"] [e], .exn "ParseError" ["word", "line"] [o, e],
  .exn "UnknownCommand" ["command"] [e], .exn "UndoError" ["count"] [e]]
theorem turn_ok (e o : D) (S : Sto) (x0 x1 x2 x3 x4 x5 x6 : Option Sl) : ∃ d, B1__law_trial [x0, x1, x2, x3, some (.val (.int 3)), some (.val (.exn "InvalidCertificate" ["index", "reason"] [o, e])), x6] S = .nx [x0, x1, x2, x3, some (.val (.int 3)), some (.val (.exn "InvalidCertificate" ["index", "reason"] [o, e])), some (.val d)] S := by
  exact ⟨.lst [.bl false, .bl false, .bl false, .bl true, .bl false, .bl false, .bl false, .bl false, .bl false], by kernel_rfl⟩
end K07

namespace K07
open PySem L2 PF
/-- what the entries are -/
def pvals (z : Int) : List PyData := [.int z, .str (toString z), .tuple [.int z, .str "a"], .none, .bool (decide (z = 7)), .str "", .tuple [], .list [.int z, .list [.str "b"]], .tuple [.str "a", .tuple [.str "b", .int z]]]
def more (z : Int) : PyData := .list [.int z, .list [.str "b"], .str "more"]
def good (p : PyData) : Bool := SeqAt.shaped p && (p.showable && (p.leavesShort 100 && decide (p.weight ≤ 9000)))
theorem good_ok {p : PyData} (h : good p = true) : (SeqAt.shaped p && (p.showable && LB p.shown.length)) = true := by
  unfold good at h
  simp only [Bool.and_eq_true, decide_eq_true_eq] at h ⊢
  obtain ⟨h1, h2, h3, h4⟩ := h
  refine ⟨h1, h2, ?_⟩
  have := PyData.shown_le 100 (by decide) p h3
  omega
theorem good_all {z : Int} (h : Zs z) : (pvals z).all (fun p => good (.list (List.replicate 18 p)) && good (.list (List.replicate 2 p))) = true ∧ good (.list (List.replicate 18 (more z))) = true := by
  rcases h with rfl | rfl | rfl | rfl <;> constructor <;> decide +kernel
end K07

namespace K07
open PySem L2 PF
/-- an entry, its Python value, before and after 'more' -/
structure Ent (S : Sto) (z : Int) (m : Nat) (e : D) (p : PyData) : Prop where
  hz : Zs z
  pv : p ∈ pvals z
  to : ∀ k, toPR (rfN S (k + 1)) e = some p
  cs : (e = .ref m ∧ S[m]? = some (lz z)) ∨ ∃ l, lin mb mx S e = some l ∧ l.contains ("list" : Str) = false
theorem ent_of {S : Sto} {z : Int} {m : Nat} {e : D} (hz : Zs z) (hS : S[m]? = some (lz z)) (he : e ∈ vals z m) : ∃ p, Ent S z m e p := by
  have nl : ∀ (t : Str), t = "int" ∨ t = "str" ∨ t = "tuple" ∨ t = "NoneType" ∨ t = "bool" → ∃ l, mb.lookup t = some l ∧ l.contains ("list" : Str) = false := fun t h => by
    rcases h with rfl | rfl | rfl | rfl | rfl
    · exact ⟨["int", "object"], by decide +kernel, by decide +kernel⟩
    · exact ⟨["str", "object"], by decide +kernel, by decide +kernel⟩
    · exact ⟨["tuple", "object"], by decide +kernel, by decide +kernel⟩
    · exact ⟨["NoneType", "object"], by decide +kernel, by decide +kernel⟩
    · exact ⟨["bool", "int", "object"], by decide +kernel, by decide +kernel⟩
  unfold vals at he
  simp only [List.mem_cons, List.mem_nil_iff, or_false] at he
  rcases he with rfl | rfl | rfl | rfl | rfl | rfl | rfl | rfl | rfl
  · exact ⟨_, hz, by simp [pvals], fun k => rfl, .inr (nl "int" (by simp))⟩
  · exact ⟨_, hz, by simp [pvals], fun k => rfl, .inr (nl "str" (by simp))⟩
  · exact ⟨.tuple [.int z, .str "a"], hz, by simp [pvals], fun k => rfl, .inr (nl "tuple" (by simp))⟩
  · exact ⟨_, hz, by simp [pvals], fun k => rfl, .inr (nl "NoneType" (by simp))⟩
  · exact ⟨_, hz, by simp [pvals], fun k => rfl, .inr (nl "bool" (by simp))⟩
  · exact ⟨_, hz, by simp [pvals], fun k => rfl, .inr (nl "str" (by simp))⟩
  · exact ⟨.tuple [], hz, by simp [pvals], fun k => rfl, .inr (nl "tuple" (by simp))⟩
  · exact ⟨.list [.int z, .list [.str "b"]], hz, by simp [pvals], fun k => rf_lst hS rfl, .inl ⟨rfl, hS⟩⟩
  · exact ⟨.tuple [.str "a", .tuple [.str "b", .int z]], hz, by simp [pvals], fun k => rfl, .inr (nl "tuple" (by simp))⟩
theorem repr18 {S : Sto} {e : D} {p : PyData} (h : toP S e = some p) (g : good (.list (List.replicate 18 p)) = true) : gRepr S [.lst (List.replicate 18 e)] = .ok (.str (PyData.list (List.replicate 18 p)).shown) S :=
  g_repr (toP_lst (toPs_rep h 18)) (good_ok g)
/-- the two texts of the 18 attributes are the same -/
theorem cmp18 {S : Sto} {e o : D} {p : PyData} (h : toP S e = some p) (g : good (.list (List.replicate 18 p)) = true) : ∃ t : Str, sB gRepr (sCons (sVar 2) sNil) [some (.val e), some (.val o), some (.val (.lst (List.replicate 18 e)))] S = .ok (.str t) S ∧
    sB gRepr (sCons (sBin gMul (sVal (sLst (sCons (sVar 0) sNil))) (sC (.int 18))) sNil) [some (.val e), some (.val o), some (.val (.lst (List.replicate 18 e)))] S = .ok (.str t) S :=
  ⟨_, ev_b (ev_cons (ev_var rfl) rfl) (repr18 h g), ev_b (ev_cons (ev_op (ev_val (ev_lst (ev_cons (ev_var rfl) rfl) rfl)) rfl (show gMul S (.lst [e]) (.int 18) = .ok (.lst (List.replicate 18 e)) S by kernel_rfl)) rfl) (repr18 h g)⟩
theorem hold_spec {S : Sto} {z : Int} {m : Nat} {e o : D} {p : PyData} (E : Ent S z m e p) : ∃ S', f__law_attributes_hold [e, o] S = .ok (.bl true) S' := by
  have ga := good_all E.hz
  have g1 : good (.list (List.replicate 18 p)) = true := (Bool.and_eq_true_iff.mp (List.all_eq_true.mp ga.1 p E.pv)).1
  obtain ⟨t, r1, r2⟩ := cmp18 (o := o) (E.to 2) g1
  have last : ∀ {S' : Sto} {p' : PyData}, toP S' e = some p' → good (.list (List.replicate 18 p')) = true → ∀ env', env' = [some (.val e), some (.val o), some (.val (.lst (List.replicate 18 e)))] →
      sRet (sBin gEq (sB gRepr (sCons (sVar 2) sNil)) (sB gRepr (sCons (sBin gMul (sVal (sLst (sCons (sVar 0) sNil))) (sC (.int 18))) sNil))) env' S' = .rt (.bl true) S' := fun {S' p'} h g env' he => by
    subst he
    obtain ⟨t', q1, q2⟩ := cmp18 (o := o) h g
    exact ev_ret ((ev_op q1 q2 g_eqs).trans (by rw [decide_eq_true rfl]))
  have step : ∀ (S' : Sto) (P : PyData), (sIfS (sTst (sIsi mb mx ["list"] (sVar 0))) (sExp (sAppend (sVar 0) (sCons (sC (.str "more")) sNil))) sNx) [some (.val e), some (.val o), some (.val (.lst (List.replicate 18 e)))] S = .nx [some (.val e), some (.val o), some (.val (.lst (List.replicate 18 e)))] S' → toP S' e = some P → good (.list (List.replicate 18 P)) = true →
      f__law_attributes_hold [e, o] S = .ok (.bl true) S' := fun S' P hs hp hg =>
    run_rt ((ev_seq (env' := [some (.val e), some (.val o), some (.val (.lst (List.replicate 3 e)))]) (S' := S) (by kernel_rfl)).trans
      ((ev_seq (env' := [some (.val e), some (.val o), some (.val (.lst (List.replicate 6 e)))]) (S' := S) (by kernel_rfl)).trans
      ((ev_seq (env' := [some (.val e), some (.val o), some (.val (.lst (List.replicate 8 e)))]) (S' := S) (by kernel_rfl)).trans
      ((ev_seq (env' := [some (.val e), some (.val o), some (.val (.lst (List.replicate 10 e)))]) (S' := S) (by kernel_rfl)).trans
      ((ev_seq (env' := [some (.val e), some (.val o), some (.val (.lst (List.replicate 12 e)))]) (S' := S) (by kernel_rfl)).trans
      ((ev_seq (env' := [some (.val e), some (.val o), some (.val (.lst (List.replicate 14 e)))]) (S' := S) (by kernel_rfl)).trans
      ((ev_seq (env' := [some (.val e), some (.val o), some (.val (.lst (List.replicate 16 e)))]) (S' := S) (by kernel_rfl)).trans
      ((ev_seq (env' := [some (.val e), some (.val o), some (.val (.lst (List.replicate 18 e)))]) (S' := S) (by kernel_rfl)).trans
      ((ev_seq ((ev_ifF (ev_tst ((ev_op r1 r2 g_nes).trans (by rw [decide_eq_true rfl]; rfl)))).trans rfl)).trans
      ((ev_seq hs).trans (last hp hg _ rfl)))))))))))
  rcases E.cs with ⟨rfl, hS⟩ | ⟨l, hl, hn⟩
  · have h2 : (S.set m (.lst ([.int z, .lst [.str "b"]] ++ [.str "more"])))[m]? = some (.lst ([.int z, .lst [.str "b"]] ++ [.str "more"])) := List.getElem?_set_self (List.getElem?_eq_some_iff.mp hS).1
    have hlin : lin mb mx S (.ref m) = some (["list", "object"] : List Str) := by
      unfold lin tyN
      simp only [hS, lz]
      decide +kernel
    exact ⟨_, step _ (more z) ((ev_ifT (ev_tst ((ev_isi (ev_var rfl) hlin).trans (by kernel_rfl)))).trans (ev_exp (ev_append (ev_var rfl) hS rfl hS (by simp)))) (rf_lst h2 rfl) ga.2⟩
  · exact ⟨S, step S p ((ev_ifF (ev_tst ((ev_isi (ev_var rfl) hl).trans (by rw [List.any_cons, hn]; rfl)))).trans rfl) (E.to 2) g1⟩
end K07

namespace K07
open PySem L2 PF
theorem caught_spec (e : D) (S : Sto) : f__law_caught [e] S = .ok (.ref S.length) (S ++ [.lst [e, e]]) := by
  have g : ∀ xs : List D, (S ++ [MO.lst xs])[S.length]? = some (.lst xs) := fun xs => by simp
  have st : ∀ xs ys : List D, (S ++ [MO.lst xs]).set S.length (.lst ys) = S ++ [.lst ys] := fun xs ys => by simp
  refine run_rt ((ev_seq (ev_set (ev_new (ev_lst (ds := []) rfl rfl)))).trans
    ((ev_seq (env' := [some (.val e), some (.val (.ref S.length)), none]) (S' := S ++ [.lst [e]]) ?_).trans
    ((ev_seq (env' := [some (.val e), some (.val (.ref S.length)), none]) (S' := S ++ [.lst [e, e]]) ?_).trans (ev_ret (ev_var rfl)))))
  · have h : (sExp (sAppend (sVar 1) (sCons (sXf "reason" xfC_reason (sVar 2)) sNil))) [some (.val e), some (.val (.ref S.length)), some (.val (.exn "InvalidAction" ["reason"] [e]))] (S ++ [.lst []]) = .nx [some (.val e), some (.val (.ref S.length)), some (.val (.exn "InvalidAction" ["reason"] [e]))] (S ++ [.lst [e]]) :=
      ev_exp ((ev_append (ev_var rfl) (g []) (ev_cons (show sXf "reason" xfC_reason (sVar 2) _ _ = .ok e (S ++ [.lst []]) by kernel_rfl) rfl) (g []) (by simp)).trans (by rw [st]; rfl))
    show unO 2 ((sExp (sAppend (sVar 1) (sCons (sXf "reason" xfC_reason (sVar 2)) sNil))) [some (.val e), some (.val (.ref S.length)), some (.val (.exn "InvalidAction" ["reason"] [e]))] (S ++ [.lst []])) = _
    rw [h]
    rfl
  · have h : (sExp (sAppend (sVar 1) (sCons (sXf "count" xfC_count (sVar 2)) sNil))) [some (.val e), some (.val (.ref S.length)), some (.val (.exn "UndoError" ["count"] [e]))] (S ++ [.lst [e]]) = .nx [some (.val e), some (.val (.ref S.length)), some (.val (.exn "UndoError" ["count"] [e]))] (S ++ [.lst [e, e]]) :=
      ev_exp ((ev_append (ev_var rfl) (g [e]) (ev_cons (show sXf "count" xfC_count (sVar 2) _ _ = .ok e (S ++ [.lst [e]]) by kernel_rfl) rfl) (g [e]) (by simp)).trans (by rw [st]; rfl))
    show unO 2 ((sExp (sAppend (sVar 1) (sCons (sXf "count" xfC_count (sVar 2)) sNil))) [some (.val e), some (.val (.ref S.length)), some (.val (.exn "UndoError" ["count"] [e]))] (S ++ [.lst [e]])) = _
    rw [h]
    rfl
theorem trial_spec (S : Sto) (n : Nat) (a b c : Int) (hS : S[n]? = some (.lst [.int a, .int b, .int c])) (ha : 0 ≤ a) (hb : 0 ≤ b ∧ b < 2147483648) (hc : c = 0) : ∃ S', f__law_trial [.ref n] S = .ok (.bl true) S' := by
  have hn : n < S.length := (List.getElem?_eq_some_iff.mp hS).1
  obtain ⟨z, a1, c1, e, hz, he, r1, ha1, hc1, hc1'⟩ := entry_spec S n a b c hS ha hb (by omega)
  obtain ⟨S1, hS1⟩ : ∃ S1, S1 = S.set n (.lst [.int a1, .int b, .int c1]) ++ [lz z] := ⟨_, rfl⟩
  rw [← hS1] at r1
  have l1 : S1.length = S.length + 1 := by rw [hS1, List.length_append, List.length_set]; rfl
  have g1 : S1[n]? = some (.lst [.int a1, .int b, .int c1]) := by
    rw [hS1, List.getElem?_append_left (by rw [List.length_set]; exact hn)]
    exact List.getElem?_set_self hn
  obtain ⟨y, a2, c2, o, hy, ho, r2, _, _, _⟩ := entry_spec S1 n a1 b c1 g1 ha1 hb (by omega)
  obtain ⟨S2, hS2⟩ : ∃ S2, S2 = S1.set n (.lst [.int a2, .int b, .int c2]) ++ [lz y] := ⟨_, rfl⟩
  rw [← hS2] at r2
  have l2 : S2.length = S.length + 2 := by rw [hS2, List.length_append, List.length_set, l1]; rfl
  have g2 : S2[S.length]? = some (lz z) := by
    rw [hS2, List.getElem?_append_left (by rw [List.length_set, l1]; omega), List.getElem?_set_ne (by omega), hS1, List.getElem?_append_right (by rw [List.length_set]; omega), List.length_set, Nat.sub_self]
    rfl
  obtain ⟨S3, hS3⟩ : ∃ S3, S3 = S2 ++ [MO.lst [e, e]] := ⟨_, rfl⟩
  have g3 : S3[S.length]? = some (lz z) := by rw [hS3, List.getElem?_append_left (by omega)]; exact g2
  obtain ⟨p, E⟩ := ent_of hz g3 he
  obtain ⟨S4, h4⟩ := hold_spec (o := o) E
  have g5 : S3[S2.length]? = some (.lst [e, e]) := by rw [hS3]; simp
  have ga := good_all hz
  have gd := (Bool.and_eq_true_iff.mp (List.all_eq_true.mp ga.1 p E.pv)).2
  have cs : sB gRepr (sCons (sCall 1 0 (gdP [0] []) f__law_caught (sCons (sVar 1) sNil) sNil) sNil) [some (.val (.ref n)), some (.val e), some (.val o), some (.val (.lst (errs e o).dropLast.dropLast)), some (.val (.int 8)), some (.val (.exn "UndoError" ["count"] [e])), some (.val (.lst [.bl false, .bl false, .bl false, .bl false, .bl false, .bl false, .bl false, .bl false, .bl true]))] S2 = .ok (.str (PyData.list [p, p]).shown) S3 :=
    ev_b (ev_cons ((ev_call (ev_cons (ev_var rfl) rfl) rfl (by exact ⟨rfl, rfl⟩)).trans ((caught_spec e S2).trans (by rw [← hS3]))) rfl) (g_repr (d := .ref S2.length) (rf_lst g5 (toPs_cons (E.to 1) (toPs_cons (E.to 1) rfl))) (good_ok gd))
  have ds : sB gRepr (sCons (sVal (sLst (sCons (sVar 1) (sCons (sVar 1) sNil)))) sNil) [some (.val (.ref n)), some (.val e), some (.val o), some (.val (.lst (errs e o).dropLast.dropLast)), some (.val (.int 8)), some (.val (.exn "UndoError" ["count"] [e])), some (.val (.lst [.bl false, .bl false, .bl false, .bl false, .bl false, .bl false, .bl false, .bl false, .bl true]))] S3 = .ok (.str (PyData.list [p, p]).shown) S3 :=
    ev_b (ev_cons (ev_val (ev_lst (ev_cons (ev_var rfl) (ev_cons (ev_var rfl) rfl)) rfl)) rfl) (g_repr (toP_lst (toPs_cons (E.to 2) (toPs_cons (E.to 2) rfl))) (good_ok gd))
  refine ⟨S4, run_rt ((ev_seq (ev_par (ev_cons ((ev_call (ev_cons (ev_var rfl) rfl) rfl (by exact ⟨rfl, rfl⟩)).trans r1) (ev_cons ((ev_call (ev_cons (ev_var rfl) rfl) rfl (by exact ⟨rfl, rfl⟩)).trans r2) rfl)))).trans
    ((ev_seq (env' := [some (.val (.ref n)), some (.val e), some (.val o), some (.val (.lst ((errs e o).take 4))), none, none, none]) (S' := S2) (by kernel_rfl)).trans
    ((ev_seq (env' := [some (.val (.ref n)), some (.val e), some (.val o), some (.val (.lst (errs e o).dropLast.dropLast)), none, none, none]) (S' := S2) (by kernel_rfl)).trans
    ((ev_seq (env' := [some (.val (.ref n)), some (.val e), some (.val o), some (.val (.lst (errs e o).dropLast.dropLast)), some (.val (.int 8)), some (.val (.exn "UndoError" ["count"] [e])), some (.val (.lst [.bl false, .bl false, .bl false, .bl false, .bl false, .bl false, .bl false, .bl false, .bl true]))]) (S' := S2) (by kernel_rfl)).trans
    (ev_ret (ev_andV ((ev_op cs ds g_eqs).trans (by rw [decide_eq_true rfl])) ((ev_call (ev_cons (ev_var rfl) (ev_cons (ev_var rfl) rfl)) rfl (by exact ⟨rfl, rfl⟩)).trans h4)))))))⟩
/-- the loop of law -/
theorem loop_spec (ns : List Int) : ∀ (k p : Nat) (S : Sto) (x : Option Sl), p + k ≤ ns.length → ∃ x' S', forS (gNm 1) B1_law ((List.range' p k).map fun (i : Nat) => D.int (i : Int)) [some (.val (.scr ns)), x] S = .nx [some (.val (.scr ns)), x'] S'
  | 0, p, S, x, _ => ⟨x, S, rfl⟩
  | k + 1, p, S, x, h => by
    obtain ⟨a, b, ha, hb, e1⟩ := stream_spec ns p S (by omega)
    obtain ⟨S1, e2⟩ := trial_spec (S ++ [.lst [.int a, .int b, .int 0]]) S.length a b 0 (by simp) ha hb rfl
    obtain ⟨x', S', e3⟩ := loop_spec ns k (p + 1) S1 (some (.val (.int p))) (by omega)
    have e4 : B1_law [some (.val (.scr ns)), some (.val (.int p))] S = .nx [some (.val (.scr ns)), some (.val (.int p))] S1 :=
      (ev_if (b := false) (show sNotT _ _ S = .ok false S1 by
        unfold sNotT
        rw [ev_tst (b := true) ((ev_call (ev_cons ((ev_call (ev_cons (ev_var rfl) (ev_cons (ev_var rfl) rfl)) rfl (by exact ⟨rfl, rfl⟩)).trans e1) rfl) rfl (by exact ⟨rfl, rfl⟩)).trans e2)]
        rfl)).trans rfl
    exact ⟨x', S', (forS_nx rfl e4).trans e3⟩
theorem law_ok : LawOk 63 f_law := fun ns hl _ => by
  obtain ⟨k, hk, hk2⟩ : ∃ k : Nat, (if (ns.length : Int) < 8 then (ns.length : Int) else 8) = (k : Int) ∧ k ≤ ns.length := by
    by_cases h : (ns.length : Int) < 8
    · exact ⟨ns.length, by rw [if_pos h], Nat.le_refl _⟩
    · exact ⟨8, by rw [if_neg h]; rfl, by omega⟩
  obtain ⟨x, S', e⟩ := loop_spec ns k 0 [] none (by omega)
  obtain ⟨S2, e2⟩ := trial_spec (S' ++ [.lst [.int 0, .int 0, .int 0]]) S'.length 0 0 0 (by simp) (by decide) (by decide) rfl
  have hm : sB gMin2 (sCons (sC (.int 8)) (sCons (sB gLen (sCons (sVar 0) sNil)) sNil)) [some (.val (.scr ns)), none] [] = .ok (.int k) [] :=
    ev_b (ev_cons rfl (ev_cons (ev_b (ev_cons (ev_var rfl) rfl) rfl) rfl)) (show gMin2 [] [.int 8, .int ((ns.map D.int).length : Nat)] = _ by
      rw [List.length_map]
      show R.ok (D.int (if (ns.length : Int) < 8 then (ns.length : Int) else 8)) [] = _
      rw [hk])
  exact ⟨S2, run_rt ((ev_seq (ev_for (ev_rng1 (ev_cons hm rfl) (by omega)) e)).trans (ev_ret ((ev_call (ev_cons (ev_new (ev_lst rfl rfl)) rfl) rfl (by exact ⟨rfl, rfl⟩)).trans e2)))⟩
end K07

open PySem PySem.W PySem.Calls PyProof.Rows
set_option maxRecDepth 100000 in
set_option maxHeartbeats 0 in
theorem PySem.Challenge.cw_flockround_k07_exceptions_and_their_attr_holds : PySem.Challenge.rw_flockround_k07_exceptions_and_their_attr.Holds := by
  w_on; o_law
  refine HandSHeadRun.head_any (r := OpenLaw.row PySem.Challenge.rw_flockround_k07_exceptions_and_their_attr) (q := view (OpenLaw.row PySem.Challenge.rw_flockround_k07_exceptions_and_their_attr).prog [20]) (H := K07.hk) (ob := K07.ob) (M := 4000) (loose := K07.nms) (d := HandSHeadRun.topDef (OpenLaw.row PySem.Challenge.rw_flockround_k07_exceptions_and_their_attr).prog 20) (kwd := []) K07.ob_eq
    (by kernel_rfl) (fun s => by kernel_rfl) K07.run (by kernel_rfl) (by kernel_rfl) (by kernel_rfl) (by rfl) (by first | assumption | decide +kernel) (by decide +kernel) ⟨rfl, rfl, rfl, rfl, rfl, by decide +kernel⟩ ?hw ?hc
  case hw => w_witness2
  case hc =>
    refine PF.pf_walkE (l := PySem.Challenge.rw_flockround_k07_exceptions_and_their_attr) (n := 63) (k := 5) (x := "_law_script") rfl (by decide) (by kernel_rfl) ⟨rfl, by decide, by decide⟩ ?F K07.law_ok
    intro w mg fa h Y G hmg0
    obtain ⟨K, KX, c⟩ := Y
    have hmg : mg ("law" : PySem.Str) = some (.ref fa) := by
      have e : (HandSHeadRun.topDef (OpenLaw.row PySem.Challenge.rw_flockround_k07_exceptions_and_their_attr).prog 20).name = ("law" : PySem.Str) := by kernel_rfl
      rw [← e]
      exact hmg0
    obtain ⟨fd, hb, hF⟩ := K07.all (P := (PySem.Challenge.rw_flockround_k07_exceptions_and_their_attr).prog) (w := w) KX G hmg c
    exact ⟨K, fd, KX, hb, hF⟩
