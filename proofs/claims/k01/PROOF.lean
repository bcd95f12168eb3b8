import PyProof.Rows.All
import Wide.All
import OpenK.AllK
import Wide.FinOn
import HandS.ForMost
import HandS.ForExc
import HandS.TupAny
import HandS.TupMul
import HandS.Deep
import HandS.IsInst
import HandS.CallSlots
import HandS.Wide
import HandS.ExcInit
import HandS.Zip
import HandS.SetFor
import HandS.TryMany
import KE.KExcIs
import KE.KIsAll
import PySem.Challenge.RW_firstsafe_k01_primes_and_inverses
import HandS.ExcIs
set_option Elab.async false
set_option linter.all false
set_option maxRecDepth 100000
/-! FsBase: values as data, the abstract store, the relation to the hand layer's heap. -/
namespace FS
open PySem PySem.Spec L2

/-- a value as data: a list that nobody changes any more is data too; a shared list or object is a number -/
inductive PV where
  | non | bl (b : Bool) | int (i : Int) | str (x : Str) | tup (xs : List PV) | lst (xs : List PV) | scr (ns : List Int) | ref (n : Nat) | raw (v : V)

/-- a name's place: no value, a value, a list that this frame alone holds, a caught error (its own dict at d) -/
inductive Slot where
  | none | val (p : PV) | own (xs : List PV) | exc (a d : Addr) (w : PV)
/-- a shared object -/
inductive SO where
  | lst (xs : List PV)
abbrev Env := List Slot
abbrev Stt := List SO
/-- how a piece of code ends -/
inductive Out (α : Type) where
  | ok (a : α) (e : Env) (s : Stt)
  | raise (c : Str) (w : PV) (e : Env) (s : Stt)
  | bad
abbrev Cd (α : Type) := Env → Stt → Out α
def ret {α : Type} (a : α) : Cd α := fun e s => .ok a e s
def Out.bind {α β : Type} (o : Out α) (k : α → Cd β) : Out β := match o with
  | .ok a e s => k a e s
  | .raise c w e s => .raise c w e s
  | .bad => .bad
def bnd {α β : Type} (d : Cd α) (k : α → Cd β) : Cd β := fun e s => (d e s).bind k
/-- a partial function's value -/
def lift {α : Type} (o : Option α) : Cd α := fun e s => match o with
  | some a => .ok a e s
  | none => .bad

structure Wd where
  m : List Addr
  fz : Addr → Prop
  H : Hp
abbrev noH : Hp := fun _ => none

mutual
inductive Rep (K : PySem.W.Frag) (G : Wd) : PV → V → Prop
  | non : Rep K G .non .non
  | bl (b : Bool) : Rep K G (.bl b) (.bl b)
  | int (i : Int) : Rep K G (.int i) (.int i)
  | str (x : Str) : Rep K G (.str x) (.str x)
  | tup {a : Addr} {vs : List V} {xs : List PV} : ((G.fz a ∧ G.H a = some (.tup vs)) ∨ SqT K noH a vs) → RepL K G xs vs → Rep K G (.tup xs) (.ref a)
  | lst {a : Addr} {vs : List V} {xs : List PV} : G.fz a → G.H a = some (.lst vs) → RepL K G xs vs → Rep K G (.lst xs) (.ref a)
  | scr {a : Addr} {ns : List Int} : ((G.fz a ∧ SqL K G.H a (ns.map V.int)) ∨ SqL K noH a (ns.map V.int)) → Rep K G (.scr ns) (.ref a)
  | ref {a : Addr} {n : Nat} : G.m[n]? = some a → Rep K G (.ref n) (.ref a)
  | raw (v : V) : Rep K G (.raw v) v
inductive RepL (K : PySem.W.Frag) (G : Wd) : List PV → List V → Prop
  | nil : RepL K G [] []
  | cons {x : PV} {v : V} {xs : List PV} {vs : List V} : Rep K G x v → RepL K G xs vs → RepL K G (x :: xs) (v :: vs)
end

/-- later: what is frozen stands -/
structure Mon (G G' : Wd) : Prop where
  m : ∃ r, G'.m = G.m ++ r
  fz : ∀ a, G.fz a → G'.fz a ∧ G'.H a = G.H a
theorem Mon.refl (G : Wd) : Mon G G := ⟨⟨[], by simp⟩, fun a h => ⟨h, rfl⟩⟩
theorem Mon.trans {G1 G2 G3 : Wd} (a : Mon G1 G2) (b : Mon G2 G3) : Mon G1 G3 := by
  obtain ⟨r, e⟩ := a.m
  obtain ⟨r', e'⟩ := b.m
  refine ⟨⟨r ++ r', by rw [e', e, List.append_assoc]⟩, fun x h => ?_⟩
  obtain ⟨h1, e1⟩ := a.fz x h
  obtain ⟨h2, e2⟩ := b.fz x h1
  exact ⟨h2, e2.trans e1⟩
theorem Mon.at {G G' : Wd} (h : Mon G G') {n : Nat} {a : Addr} (e : G.m[n]? = some a) : G'.m[n]? = some a := by
  obtain ⟨r, q⟩ := h.m
  have hl : n < G.m.length := (List.getElem?_eq_some_iff.mp e).1
  rw [q, List.getElem?_append_left hl]
  exact e
theorem SqL.of_eq {K : PySem.W.Frag} {H H' : Hp} {a : Addr} {xs : List V} (e : H' a = H a) (h : SqL K H a xs) : SqL K H' a xs := by
  rcases h with (h | ⟨o, h⟩) | h
  · exact .inl (.inl (e.trans h))
  · exact .inl (.inr ⟨o, e.trans h⟩)
  · exact .inr h

mutual
theorem Rep.mono {K : PySem.W.Frag} {G G' : Wd} (M : Mon G G') : ∀ (p : PV) (v : V), Rep K G p v → Rep K G' p v
  | .non, _, h => by cases h; exact .non
  | .bl b, _, h => by cases h; exact .bl b
  | .int i, _, h => by cases h; exact .int i
  | .str x, _, h => by cases h; exact .str x
  | .tup xs, _, h => by
    cases h with
    | tup h r =>
      refine .tup ?_ (RepL.mono M xs _ r)
      rcases h with ⟨h1, h2⟩ | h
      · obtain ⟨q1, q2⟩ := M.fz _ h1
        exact .inl ⟨q1, q2.trans h2⟩
      · exact .inr h
  | .lst xs, _, h => by
    cases h with
    | lst h1 h2 r =>
      obtain ⟨q1, q2⟩ := M.fz _ h1
      exact .lst q1 (q2.trans h2) (RepL.mono M xs _ r)
  | .scr ns, _, h => by
    cases h with
    | scr h =>
      rcases h with ⟨h1, h2⟩ | h
      · obtain ⟨q1, q2⟩ := M.fz _ h1
        exact .scr (.inl ⟨q1, SqL.of_eq q2 h2⟩)
      · exact .scr (.inr h)
  | .ref n, _, h => by
    cases h with
    | ref h => exact .ref (M.at h)
  | .raw v, _, h => by cases h; exact .raw v
theorem RepL.mono {K : PySem.W.Frag} {G G' : Wd} (M : Mon G G') : ∀ (ps : List PV) (vs : List V), RepL K G ps vs → RepL K G' ps vs
  | [], _, h => by cases h; exact .nil
  | x :: xs, _, h => by
    cases h with
    | cons h r => exact .cons (Rep.mono M x _ h) (RepL.mono M xs _ r)
end
section
variable {K : PySem.W.Frag} {G G' : Wd}
theorem Rep.mon {p : PV} {v : V} (h : Rep K G p v) (M : Mon G G') : Rep K G' p v := Rep.mono M p v h
theorem RepL.mon {p : List PV} {v : List V} (h : RepL K G p v) (M : Mon G G') : RepL K G' p v := RepL.mono M p v h
theorem RepL.length : ∀ {ps : List PV} {vs : List V}, RepL K G ps vs → ps.length = vs.length
  | _, _, .nil => rfl
  | _, _, .cons _ r => congrArg (· + 1) (RepL.length r)
theorem RepL.get : ∀ {ps : List PV} {vs : List V} {i : Nat} {p : PV}, RepL K G ps vs → ps[i]? = some p → ∃ v, vs[i]? = some v ∧ Rep K G p v
  | _, _, i, p, .nil, e => by simp at e
  | _, _, 0, p, .cons h _, e => by
    simp at e
    subst e
    exact ⟨_, rfl, h⟩
  | _, _, i + 1, p, .cons _ r, e => by
    obtain ⟨v, e', h⟩ := RepL.get (i := i) r (by simpa using e)
    exact ⟨v, by simpa using e', h⟩
theorem RepL.getV : ∀ {ps : List PV} {vs : List V} {i : Nat} {v : V}, RepL K G ps vs → vs[i]? = some v → ∃ p, ps[i]? = some p ∧ Rep K G p v
  | _, _, i, p, .nil, e => by simp at e
  | _, _, 0, p, .cons h _, e => by
    simp at e
    subst e
    exact ⟨_, rfl, h⟩
  | _, _, i + 1, p, .cons _ r, e => by
    obtain ⟨v, e', h⟩ := RepL.getV (i := i) r (by simpa using e)
    exact ⟨v, by simpa using e', h⟩
theorem RepL.append : ∀ {ps qs : List PV} {vs ws : List V}, RepL K G ps vs → RepL K G qs ws → RepL K G (ps ++ qs) (vs ++ ws)
  | _, _, _, _, .nil, r => r
  | _, _, _, _, .cons h t, r => .cons h (t.append r)
theorem RepL.take : ∀ {ps : List PV} {vs : List V} (n : Nat), RepL K G ps vs → RepL K G (ps.take n) (vs.take n)
  | _, _, 0, _ => by rw [List.take_zero, List.take_zero]; exact .nil
  | _, _, n + 1, .nil => .nil
  | _, _, n + 1, .cons h r => .cons h (r.take n)
theorem RepL.drop : ∀ {ps : List PV} {vs : List V} (n : Nat), RepL K G ps vs → RepL K G (ps.drop n) (vs.drop n)
  | _, _, 0, h => h
  | _, _, n + 1, .nil => .nil
  | _, _, n + 1, .cons _ r => r.drop n
theorem RepL.set : ∀ {ps : List PV} {vs : List V} (n : Nat) {p : PV} {v : V}, RepL K G ps vs → Rep K G p v → RepL K G (ps.set n p) (vs.set n v)
  | _, _, _, _, _, .nil, _ => .nil
  | _, _, 0, _, _, .cons _ r, q => .cons q r
  | _, _, n + 1, _, _, .cons h r, q => .cons h (r.set n q)
theorem RepL.erase : ∀ {ps : List PV} {vs : List V} (n : Nat), RepL K G ps vs → RepL K G (ps.eraseIdx n) (vs.eraseIdx n)
  | _, _, _, .nil => .nil
  | _, _, 0, .cons _ r => r
  | _, _, n + 1, .cons h r => .cons h (r.erase n)
theorem RepL.snoc {ps : List PV} {vs : List V} {p : PV} {v : V} (h : RepL K G ps vs) (q : Rep K G p v) : RepL K G (ps ++ [p]) (vs ++ [v]) := h.append (.cons q .nil)
theorem RepL.rep : ∀ (n : Nat) {ps : List PV} {vs : List V}, RepL K G ps vs → RepL K G (List.replicate n ps).flatten (List.replicate n vs).flatten
  | 0, _, _, _ => .nil
  | n + 1, ps, vs, h => by
    rw [List.replicate_succ, List.replicate_succ, List.flatten_cons, List.flatten_cons]
    exact h.append (RepL.rep n h)
theorem RepL.ints : ∀ (ns : List Int), RepL K G (ns.map PV.int) (ns.map V.int)
  | [] => .nil
  | n :: ns => .cons (.int n) (RepL.ints ns)
end

/-! ### the shared store, the frame -/
def RepO (K : PySem.W.Frag) (G : Wd) : SO → Option HO → Prop
  | .lst xs, h => ∃ vs, h = some (.lst vs) ∧ RepL K G xs vs
structure RepS (K : PySem.W.Frag) (G : Wd) (S : Stt) : Prop where
  len : G.m.length = S.length
  nd : G.m.Nodup
  nf : ∀ a ∈ G.m, ¬ G.fz a
  ob : ∀ (i : Nat) (a : Addr) (o : SO), G.m[i]? = some a → S[i]? = some o → RepO K G o (G.H a)
def IsOwn (env : Env) (i : Nat) : Prop := ∃ xs, env[i]? = some (.own xs)
structure RepE (K : PySem.W.Frag) (G : Wd) (env : Env) (σ : St) : Prop where
  len : env.length = σ.length
  val : ∀ (i : Nat) (p : PV), env[i]? = some (.val p) → ∃ v, σ[i]? = some (some v) ∧ Rep K G p v
  own : ∀ (i : Nat) (xs : List PV), env[i]? = some (.own xs) → ∃ a vs, σ[i]? = some (some (.ref a)) ∧ G.H a = some (.lst vs) ∧ RepL K G xs vs ∧ ¬ G.fz a ∧ a ∉ G.m
  exc : ∀ (i : Nat) (a d : Addr) (w : PV), env[i]? = some (.exc a d w) → σ[i]? = some (some (.ref a)) ∧ G.fz d ∧ ∃ v, G.H d = some (.xd [(("what" : Str), v)]) ∧ Rep K G w v
  dis : ∀ (i j : Nat) (a : Addr), IsOwn env i → IsOwn env j → σ[i]? = some (some (.ref a)) → σ[j]? = some (some (.ref a)) → i = j

/-- what a call does to its caller's world -/
structure Ent (G0 G : Wd) : Prop where
  pre : ∃ r, G.m = G0.m ++ r
  new : ∀ a ∈ G.m, a ∈ G0.m ∨ G0.H a = none
  fz : ∀ a, G0.fz a → G.fz a
  fzn : ∀ a, G.fz a → G0.fz a ∨ G0.H a = none
  keep : ∀ a o, G0.H a = some o → a ∉ G0.m → G.H a = some o
  there : ∀ a, G.H a = none → G0.H a = none
theorem Ent.refl (G : Wd) : Ent G G := ⟨⟨[], by simp⟩, fun _ h => .inl h, fun _ h => h, fun _ h => .inl h, fun _ _ h _ => h, fun _ h => h⟩
theorem Ent.trans {G0 G1 G2 : Wd} (a : Ent G0 G1) (b : Ent G1 G2) : Ent G0 G2 := by
  obtain ⟨r, e⟩ := a.pre
  obtain ⟨r', e'⟩ := b.pre
  refine ⟨⟨r ++ r', by rw [e', e, List.append_assoc]⟩, fun x h => ?_, fun x h => b.fz x (a.fz x h), fun x h => ?_, fun x o h hm => ?_, fun x h => a.there x (b.there x h)⟩
  · rcases b.new x h with h | h
    · exact a.new x h
    · exact .inr (a.there x h)
  · rcases b.fzn x h with h | h
    · exact a.fzn x h
    · exact .inr (a.there x h)
  · have h1 := a.keep x o h hm
    refine b.keep x o h1 fun h2 => ?_
    rcases a.new x h2 with h3 | h3
    · exact hm h3
    · rw [h] at h3; cases h3
/-- only new things -/
structure Ext (G G' : Wd) : Prop where
  m : G'.m = G.m
  fz : ∀ a, G.fz a → G'.fz a
  fzn : ∀ a, G'.fz a → G.fz a ∨ G.H a = none
  keep : ∀ a o, G.H a = some o → G'.H a = some o
theorem Ext.refl (G : Wd) : Ext G G := ⟨rfl, fun _ h => h, fun _ h => .inl h, fun _ _ h => h⟩
theorem Ext.there {G G' : Wd} (x : Ext G G') {a : Addr} (h : G'.H a = none) : G.H a = none := by
  cases e : G.H a with
  | none => rfl
  | some o => rw [x.keep a o e] at h; cases h
theorem Ext.trans {G G1 G2 : Wd} (a : Ext G G1) (b : Ext G1 G2) : Ext G G2 := by
  refine ⟨b.m.trans a.m, fun x h => b.fz x (a.fz x h), fun x h => ?_, fun x o h => b.keep x o (a.keep x o h)⟩
  rcases b.fzn x h with h | h
  · exact a.fzn x h
  · exact .inr (a.there h)
theorem Ext.ent {G G' : Wd} (x : Ext G G') : Ent G G' :=
  ⟨⟨[], by rw [x.m]; simp⟩, fun a h => .inl (by rw [← x.m]; exact h), x.fz, x.fzn, fun a o h _ => x.keep a o h, fun _ h => x.there h⟩
/-- what is frozen is there -/
def Sure (G : Wd) : Prop := ∀ a, G.fz a → ∃ o, G.H a = some o
theorem Ext.mon {G G' : Wd} (x : Ext G G') (s : Sure G) : Mon G G' := ⟨⟨[], by rw [x.m]; simp⟩, fun a h => ⟨x.fz a h, by
  obtain ⟨o, e⟩ := s a h
  rw [e, x.keep a o e]⟩⟩
/-- a new thing, frozen -/
abbrev Wd.frozen (G : Wd) (a : Addr) (o : HO) : Wd := ⟨G.m, fun b => G.fz b ∨ b = a, upd G.H a o⟩
/-- a new thing, not frozen -/
abbrev Wd.fresh (G : Wd) (a : Addr) (o : HO) : Wd := ⟨G.m, G.fz, upd G.H a o⟩
theorem keepU {H : Hp} {a : Addr} {o : HO} (hn : H a = none) : ∀ b u, H b = some u → upd H a o b = some u := fun b u e => by
  rw [upd_ne (ne_of_none e hn)]
  exact e
theorem Ext.frozen {G : Wd} {a : Addr} {o : HO} (hn : G.H a = none) : Ext G (G.frozen a o) :=
  ⟨rfl, fun _ h => .inl h, fun b h => h.elim .inl fun e => .inr (by rw [e]; exact hn), keepU hn⟩
theorem Ext.fresh {G : Wd} {a : Addr} {o : HO} (hn : G.H a = none) : Ext G (G.fresh a o) :=
  ⟨rfl, fun _ h => h, fun b h => .inl h, keepU hn⟩

/-- the frame's state: G0 the world at the def's entry -/
structure At (K : PySem.W.Frag) (G0 G : Wd) (S : Stt) (env : Env) (σ : St) : Prop where
  st : RepS K G S
  en : RepE K G env σ
  ent : Ent G0 G
  mine : ∀ (i : Nat) (a : Addr), IsOwn env i → σ[i]? = some (some (.ref a)) → G0.H a = none
  sure : Sure G

theorem RepO.mono {K : PySem.W.Frag} {G G' : Wd} (M : Mon G G') {o : SO} {h : Option HO} (r : RepO K G o h) : RepO K G' o h := by
  cases o with
  | lst xs => obtain ⟨vs, e, r⟩ := r; exact ⟨vs, e, r.mon M⟩
theorem RepO.some {K : PySem.W.Frag} {G : Wd} {o : SO} {h : Option HO} (r : RepO K G o h) : ∃ u, h = some u := by
  cases o with
  | lst xs => obtain ⟨vs, e, r⟩ := r; exact ⟨_, e⟩
section
variable {K : PySem.W.Frag} {G0 G G' : Wd} {S S' : Stt} {env : Env} {σ : St}
theorem RepS.there (s : RepS K G S) {a : Addr} (h : a ∈ G.m) : ∃ u, G.H a = some u := by
  obtain ⟨i, hi⟩ := List.getElem?_of_mem h
  have hl : i < S.length := by rw [← s.len]; exact (List.getElem?_eq_some_iff.mp hi).1
  exact (s.ob i a S[i] hi (by simp [hl])).some
theorem RepS.ext (s : RepS K G S) (x : Ext G G') (M : Mon G G') : RepS K G' S := by
  refine ⟨by rw [x.m]; exact s.len, by rw [x.m]; exact s.nd, fun a h h' => ?_, fun i a o h1 h2 => ?_⟩
  · rw [x.m] at h
    rcases x.fzn a h' with q | q
    · exact s.nf a h q
    · obtain ⟨u, e⟩ := s.there h
      rw [q] at e; cases e
  · rw [x.m] at h1
    have q := s.ob i a o h1 h2
    obtain ⟨u, e⟩ := q.some
    rw [x.keep a u e, ← e]
    exact q.mono M
/-- the frame over a change that keeps the frozen and the frame's own -/
theorem RepE.over (r : RepE K G env σ) (M : Mon G G') (hk : ∀ (i : Nat) (a : Addr), IsOwn env i → σ[i]? = some (some (.ref a)) → G'.H a = G.H a ∧ ¬ G'.fz a ∧ a ∉ G'.m) : RepE K G' env σ := by
  refine ⟨r.len, fun i p e => ?_, fun i xs e => ?_, fun i a d w e => ?_, r.dis⟩
  · obtain ⟨v, e1, h⟩ := r.val i p e
    exact ⟨v, e1, h.mon M⟩
  · obtain ⟨a, vs, e1, e2, h, _, _⟩ := r.own i xs e
    obtain ⟨q1, q2, q3⟩ := hk i a ⟨xs, e⟩ e1
    exact ⟨a, vs, e1, q1.trans e2, h.mon M, q2, q3⟩
  · obtain ⟨e1, h1, v, e2, h2⟩ := r.exc i a d w e
    obtain ⟨q1, q2⟩ := M.fz d h1
    exact ⟨e1, q1, v, q2.trans e2, h2.mon M⟩
/-- .. over a call -/
theorem At.call (A : At K G0 G S env σ) (E : Ent G G') (M : Mon G G') (s : RepS K G' S') (su : Sure G') : At K G0 G' S' env σ := by
  refine ⟨s, A.en.over M fun i a ho e => ?_, A.ent.trans E, A.mine, su⟩
  obtain ⟨xs, ho⟩ := ho
  obtain ⟨b, vs, e1, e2, _, n1, n2⟩ := A.en.own i xs ho
  rw [e1] at e
  cases e
  refine ⟨by rw [e2]; exact E.keep _ _ e2 n2, fun h => ?_, fun h => ?_⟩
  · rcases E.fzn _ h with h | h
    · exact n1 h
    · rw [e2] at h; cases h
  · rcases E.new _ h with h | h
    · exact n2 h
    · rw [e2] at h; cases h
theorem Ext.sure (x : Ext G G') (s : Sure G) (h : ∀ a, G'.fz a → G.fz a ∨ ∃ o, G'.H a = some o) : Sure G' := fun a q => by
  rcases h a q with h | h
  · obtain ⟨o, e⟩ := s a h
    exact ⟨o, x.keep a o e⟩
  · exact h
/-- .. over new things -/
theorem At.ext (A : At K G0 G S env σ) (x : Ext G G') (su : Sure G') : At K G0 G' S env σ := A.call x.ent (x.mon A.sure) (A.st.ext x (x.mon A.sure)) su
theorem At.frozen {a : Addr} {o : HO} (A : At K G0 G S env σ) (hn : G.H a = none) : At K G0 (G.frozen a o) S env σ :=
  A.ext (Ext.frozen hn) ((Ext.frozen hn).sure A.sure fun b h => h.elim .inl fun e => .inr ⟨o, by rw [e]; exact upd_same⟩)
theorem At.fresh {a : Addr} {o : HO} (A : At K G0 G S env σ) (hn : G.H a = none) : At K G0 (G.fresh a o) S env σ :=
  A.ext (Ext.fresh hn) ((Ext.fresh hn).sure A.sure fun b h => .inl h)
end

/-! ### readings -/
structure Zx where
  K : PySem.W.Frag
  mg : Str → Option Value
  G0 : Wd
  W : WX
/-- what is wanted of a raising end -/
def PRaise (z : Zx) (G : Wd) (c : Str) (w : PV) (env : Env) (S : Stt) (σ : St) : Prop :=
  ∀ (G' : Wd) (cls : Value) (d : Addr) (v : V), Mon G G' → At z.K z.G0 G' S env σ → z.mg c = some cls → z.G0.H d = none → G'.H d = some (.xd [(("what" : Str), v)]) → Rep z.K G' w v → z.W cls (some d) σ G'.H
/-- behind an expression -/
def Post (z : Zx) (G : Wd) (σ : St) (Q : VK) : Out PV → Prop
  | .ok p env S => ∀ (v : V) (G' : Wd), Mon G G' → At z.K z.G0 G' S env σ → Rep z.K G' p v → Q v G'.H
  | .raise c w env S => ∀ σ', PRaise z G c w env S σ'
  | .bad => False
/-- .. a test -/
def PostT (z : Zx) (G : Wd) (σ : St) (Q : Bool → Hp → Prop) : Out Bool → Prop
  | .ok b env S => ∀ (G' : Wd), Mon G G' → At z.K z.G0 G' S env σ → Q b G'.H
  | .raise c w env S => ∀ σ', PRaise z G c w env S σ'
  | .bad => False
/-- .. arguments -/
def PostA (z : Zx) (G : Wd) (σ : St) (Q : List V → Hp → Prop) : Out (List PV) → Prop
  | .ok ps env S => ∀ (vs : List V) (G' : Wd), Mon G G' → At z.K z.G0 G' S env σ → RepL z.K G' ps vs → Q vs G'.H
  | .raise c w env S => ∀ σ', PRaise z G c w env S σ'
  | .bad => False
/-- .. a list that nobody else holds -/
def PostF (z : Zx) (G : Wd) (σ : St) (Q : VK) : Out (List PV) → Prop
  | .ok xs env S => ∀ (a : Addr) (vs : List V) (G' : Wd), Mon G G' → At z.K z.G0 G' S env σ → RepL z.K G' xs vs → G'.H a = some (.lst vs) → ¬ G'.fz a → a ∉ G'.m → z.G0.H a = none →
      (∀ i : Nat, IsOwn env i → σ[i]? ≠ some (some (.ref a))) → Q (.ref a) G'.H
  | .raise c w env S => ∀ σ', PRaise z G c w env S σ'
  | .bad => False
/-- a statement's end -/
inductive Flw where
  | next | ret (p : PV) | brk | cont
def PostS (z : Zx) (G : Wd) (D : Ends) : Out Flw → Prop
  | .ok .next env S => ∀ (σ' : St) (G' : Wd), Mon G G' → At z.K z.G0 G' S env σ' → D.nx σ' G'.H
  | .ok .brk env S => ∀ (σ' : St) (G' : Wd), Mon G G' → At z.K z.G0 G' S env σ' → D.bk σ' G'.H
  | .ok .cont env S => ∀ (σ' : St) (G' : Wd), Mon G G' → At z.K z.G0 G' S env σ' → D.ct σ' G'.H
  | .ok (.ret p) env S => ∀ (v : V) (σ' : St) (G' : Wd), Mon G G' → At z.K z.G0 G' S env σ' → Rep z.K G' p v → D.rt v G'.H
  | .raise c w env S => ∀ σ', PRaise z G c w env S σ'
  | .bad => False
def RE (z : Zx) (d : Cd PV) : TE := fun σ H Q => ∃ G env S, G.H = H ∧ At z.K z.G0 G S env σ ∧ Post z G σ Q (d env S)
def RT (z : Zx) (d : Cd Bool) : TT := fun σ H Q => ∃ G env S, G.H = H ∧ At z.K z.G0 G S env σ ∧ PostT z G σ Q (d env S)
def RA (z : Zx) (d : Cd (List PV)) : TA := fun σ H Q => ∃ G env S, G.H = H ∧ At z.K z.G0 G S env σ ∧ PostA z G σ Q (d env S)
def RF (z : Zx) (d : Cd (List PV)) : TE := fun σ H Q => ∃ G env S, G.H = H ∧ At z.K z.G0 G S env σ ∧ PostF z G σ Q (d env S)
def RS (z : Zx) (d : Cd Flw) : TS := fun D σ H => ∃ G env S, G.H = H ∧ At z.K z.G0 G S env σ ∧ PostS z G D (d env S)
theorem PRaise.later {z : Zx} {G G1 : Wd} {c : Str} {w : PV} {env : Env} {S : Stt} {σ : St} (h : PRaise z G c w env S σ) (M : Mon G G1) : PRaise z G1 c w env S σ :=
  fun G' cls d v m a e1 e0 e2 r => h G' cls d v (M.trans m) a e1 e0 e2 r
theorem Post.later {z : Zx} {G G1 : Wd} {σ : St} {Q : VK} {o : Out PV} (h : Post z G σ Q o) (M : Mon G G1) : Post z G1 σ Q o := by
  cases o with
  | ok p env S => exact fun v G' m a r => h v G' (M.trans m) a r
  | raise c w env S => exact fun σ' => (h σ').later M
  | bad => exact h
theorem PostT.later {z : Zx} {G G1 : Wd} {σ : St} {Q : Bool → Hp → Prop} {o : Out Bool} (h : PostT z G σ Q o) (M : Mon G G1) : PostT z G1 σ Q o := by
  cases o with
  | ok p env S => exact fun G' m a => h G' (M.trans m) a
  | raise c w env S => exact fun σ' => (h σ').later M
  | bad => exact h
theorem PostA.later {z : Zx} {G G1 : Wd} {σ : St} {Q : List V → Hp → Prop} {o : Out (List PV)} (h : PostA z G σ Q o) (M : Mon G G1) : PostA z G1 σ Q o := by
  cases o with
  | ok p env S => exact fun v G' m a r => h v G' (M.trans m) a r
  | raise c w env S => exact fun σ' => (h σ').later M
  | bad => exact h
theorem PostF.later {z : Zx} {G G1 : Wd} {σ : St} {Q : VK} {o : Out (List PV)} (h : PostF z G σ Q o) (M : Mon G G1) : PostF z G1 σ Q o := by
  cases o with
  | ok p env S => exact fun a vs G' m => h a vs G' (M.trans m)
  | raise c w env S => exact fun σ' => (h σ').later M
  | bad => exact h
theorem PostS.later {z : Zx} {G G1 : Wd} {D : Ends} {o : Out Flw} (h : PostS z G D o) (M : Mon G G1) : PostS z G1 D o := by
  cases o with
  | ok f env S =>
    cases f with
    | next => exact fun σ' G' m => h σ' G' (M.trans m)
    | brk => exact fun σ' G' m => h σ' G' (M.trans m)
    | cont => exact fun σ' G' m => h σ' G' (M.trans m)
    | ret p => exact fun v σ' G' m => h v σ' G' (M.trans m)
  | raise c w env S => exact fun σ' => (h σ').later M
  | bad => exact h
end FS

set_option Elab.async false
set_option linter.all false
set_option maxRecDepth 100000
/-! FsExpr: expressions. -/
namespace FS
open PySem PySem.Spec L2

/-! ### how ends compose -/
structure Lw (z : Zx) {β : Type} (F : Wd → Out β → Prop) : Prop where
  later : ∀ G G1 o, F G o → Mon G G1 → F G1 o
  rais : ∀ G c w e S, F G (.raise c w e S) → ∀ σ', PRaise z G c w e S σ'
  bad : ∀ G, F G .bad → False
section
variable {z : Zx} {σ : St}
theorem lwE {Q : VK} : Lw z (fun G o => Post z G σ Q o) := ⟨fun _ _ _ h m => h.later m, fun _ _ _ _ _ h => h, fun _ h => h⟩
theorem lwT {Q : Bool → Hp → Prop} : Lw z (fun G o => PostT z G σ Q o) := ⟨fun _ _ _ h m => h.later m, fun _ _ _ _ _ h => h, fun _ h => h⟩
theorem lwA {Q : List V → Hp → Prop} : Lw z (fun G o => PostA z G σ Q o) := ⟨fun _ _ _ h m => h.later m, fun _ _ _ _ _ h => h, fun _ h => h⟩
theorem lwF {Q : VK} : Lw z (fun G o => PostF z G σ Q o) := ⟨fun _ _ _ h m => h.later m, fun _ _ _ _ _ h => h, fun _ h => h⟩
theorem lwS {D : Ends} : Lw z (fun G o => PostS z G D o) := ⟨fun _ _ _ h m => h.later m, fun _ _ _ _ _ h => h, fun _ h => h⟩
section
variable {β : Type} {F : Wd → Out β → Prop} {G : Wd} {env : Env} {S : Stt}
theorem toE (L : Lw z F) {d : Cd PV} {k : PV → Cd β} {R : VK} (A : At z.K z.G0 G S env σ) (P : F G (bnd d k env S))
    (h : ∀ p env1 S1 v G1, Mon G G1 → At z.K z.G0 G1 S1 env1 σ → Rep z.K G1 p v → F G1 (k p env1 S1) → R v G1.H) : RE z d σ G.H R := by
  refine ⟨G, env, S, rfl, A, ?_⟩
  unfold bnd at P
  cases e : d env S with
  | ok p env1 S1 =>
    rw [e] at P
    exact fun v G1 m a r => h p env1 S1 v G1 m a r (L.later _ _ _ P m)
  | raise c w env1 S1 =>
    rw [e] at P
    exact L.rais _ _ _ _ _ P
  | bad =>
    rw [e] at P
    exact (L.bad _ P).elim
theorem toT (L : Lw z F) {d : Cd Bool} {k : Bool → Cd β} {R : Bool → Hp → Prop} (A : At z.K z.G0 G S env σ) (P : F G (bnd d k env S))
    (h : ∀ b env1 S1 G1, Mon G G1 → At z.K z.G0 G1 S1 env1 σ → F G1 (k b env1 S1) → R b G1.H) : RT z d σ G.H R := by
  refine ⟨G, env, S, rfl, A, ?_⟩
  unfold bnd at P
  cases e : d env S with
  | ok p env1 S1 =>
    rw [e] at P
    exact fun G1 m a => h p env1 S1 G1 m a (L.later _ _ _ P m)
  | raise c w env1 S1 =>
    rw [e] at P
    exact L.rais _ _ _ _ _ P
  | bad =>
    rw [e] at P
    exact (L.bad _ P).elim
theorem toA (L : Lw z F) {d : Cd (List PV)} {k : List PV → Cd β} {R : List V → Hp → Prop} (A : At z.K z.G0 G S env σ) (P : F G (bnd d k env S))
    (h : ∀ p env1 S1 v G1, Mon G G1 → At z.K z.G0 G1 S1 env1 σ → RepL z.K G1 p v → F G1 (k p env1 S1) → R v G1.H) : RA z d σ G.H R := by
  refine ⟨G, env, S, rfl, A, ?_⟩
  unfold bnd at P
  cases e : d env S with
  | ok p env1 S1 =>
    rw [e] at P
    exact fun v G1 m a r => h p env1 S1 v G1 m a r (L.later _ _ _ P m)
  | raise c w env1 S1 =>
    rw [e] at P
    exact L.rais _ _ _ _ _ P
  | bad =>
    rw [e] at P
    exact (L.bad _ P).elim
/-- a list that nobody else holds -/
structure Alone (z : Zx) (G : Wd) (env : Env) (σ : St) (a : Addr) (vs : List V) : Prop where
  at_ : G.H a = some (.lst vs)
  nf : ¬ G.fz a
  nm : a ∉ G.m
  n0 : z.G0.H a = none
  no : ∀ i : Nat, IsOwn env i → σ[i]? ≠ some (some (.ref a))
theorem toF (L : Lw z F) {d : Cd (List PV)} {k : List PV → Cd β} {R : VK} (A : At z.K z.G0 G S env σ) (P : F G (bnd d k env S))
    (h : ∀ p env1 S1 a vs G1, Mon G G1 → At z.K z.G0 G1 S1 env1 σ → RepL z.K G1 p vs → Alone z G1 env1 σ a vs → F G1 (k p env1 S1) → R (.ref a) G1.H) : RF z d σ G.H R := by
  refine ⟨G, env, S, rfl, A, ?_⟩
  unfold bnd at P
  cases e : d env S with
  | ok p env1 S1 =>
    rw [e] at P
    exact fun a vs G1 m A1 r h1 h2 h3 h4 h5 => h p env1 S1 a vs G1 m A1 r ⟨h1, h2, h3, h4, h5⟩ (L.later _ _ _ P m)
  | raise c w env1 S1 =>
    rw [e] at P
    exact L.rais _ _ _ _ _ P
  | bad =>
    rw [e] at P
    exact (L.bad _ P).elim
end

/-! ### new things -/
section
variable {G : Wd} {env : Env} {S : Stt} {a : Addr} {vs : List V}
theorem At.alone (A : At z.K z.G0 G S env σ) (hn : G.H a = none) : Alone z (G.fresh a (.lst vs)) env σ a vs := by
  refine ⟨upd_same, fun h => ?_, fun h => ?_, A.ent.there a hn, fun i ho e => ?_⟩
  · obtain ⟨o, q⟩ := A.sure a h
    rw [hn] at q; cases q
  · obtain ⟨o, q⟩ := A.st.there h
    rw [hn] at q; cases q
  · obtain ⟨xs, ho⟩ := ho
    obtain ⟨b, ws, e1, e2, _⟩ := A.en.own i xs ho
    rw [e] at e1; cases e1
    rw [hn] at e2; cases e2
/-- a list is frozen -/
abbrev Wd.freeze (G : Wd) (a : Addr) : Wd := ⟨G.m, fun b => G.fz b ∨ b = a, G.H⟩
theorem mon_freeze : Mon G (G.freeze a) := ⟨⟨[], by simp⟩, fun b h => ⟨.inl h, rfl⟩⟩
theorem At.freeze (A : At z.K z.G0 G S env σ) (q : Alone z G env σ a vs) : At z.K z.G0 (G.freeze a) S env σ := by
  have M : Mon G (G.freeze a) := mon_freeze
  refine ⟨⟨A.st.len, A.st.nd, fun b hb h => ?_, fun i b o h1 h2 => (A.st.ob i b o h1 h2).mono M⟩, A.en.over M fun i b ho e => ⟨rfl, fun h => ?_, ?_⟩, ?_, A.mine, fun b h => ?_⟩
  · rcases h with h | h
    · exact A.st.nf b hb h
    · rw [h] at hb; exact q.nm hb
  · rcases h with h | h
    · obtain ⟨xs, ho⟩ := ho
      obtain ⟨c, ws, e1, _, _, n1, _⟩ := A.en.own i xs ho
      rw [e] at e1; cases e1
      exact n1 h
    · rw [h] at e
      exact q.no i ho e
  · obtain ⟨xs, ho⟩ := ho
    obtain ⟨c, ws, e1, _, _, _, n2⟩ := A.en.own i xs ho
    rw [e] at e1; cases e1
    exact n2
  · exact ⟨A.ent.pre, A.ent.new, fun b h => .inl (A.ent.fz b h), fun b h => h.elim (A.ent.fzn b) fun e => .inr (by rw [e]; exact q.n0), A.ent.keep, A.ent.there⟩
  · rcases h with h | h
    · exact A.sure b h
    · exact ⟨_, by rw [h]; exact q.at_⟩
end
end

/-! ### judgements -/
section
variable {X : Cx} {z : Zx}
theorem _root_.L2.PE.imp {e : Expr} {t t' : TE} (h : PE X e t) (i : ∀ σ H Q, t' σ H Q → t σ H Q) : PE X e t' := ⟨fun pins s σ H Q I q => h.run pins s σ H Q I (i σ H Q q)⟩
theorem _root_.L2.PT.imp {e : Expr} {t t' : TT} (h : PT X e t) (i : ∀ σ H Q, t' σ H Q → t σ H Q) : PT X e t' := ⟨fun pins s σ H Q I q => h.run pins s σ H Q I (i σ H Q q)⟩
theorem _root_.L2.PA.imp {e : List Expr} {t t' : TA} (h : PA X e t) (i : ∀ σ H Q, t' σ H Q → t σ H Q) : PA X e t' := ⟨fun pos pins s σ H Q I q => h.run pos pins s σ H Q I (i σ H Q q)⟩
theorem _root_.L2.PS.imp {e : Stmt} {t t' : TS} (h : PS X e t) (i : ∀ D σ H, t' D σ H → t D σ H) : PS X e t' := ⟨fun pins s σ H D I q => h.run pins s σ H D I (i D σ H q)⟩
theorem _root_.L2.PSs.imp {e : List Stmt} {t t' : TS} (h : PSs X e t) (i : ∀ D σ H, t' D σ H → t D σ H) : PSs X e t' := ⟨fun pins s σ H D I q => h.run pins s σ H D I (i D σ H q)⟩
abbrev ME (X : Cx) (z : Zx) (e : Expr) (d : Cd PV) : Prop := PE X e (RE z d)
abbrev MT (X : Cx) (z : Zx) (e : Expr) (d : Cd Bool) : Prop := PT X e (RT z d)
abbrev MA (X : Cx) (z : Zx) (e : List Expr) (d : Cd (List PV)) : Prop := PA X e (RA z d)
abbrev MF (X : Cx) (z : Zx) (e : Expr) (d : Cd (List PV)) : Prop := PE X e (RF z d)

/-! ### names and constants -/
def dVar (i : Nat) : Cd PV := fun e s => match e[i]? with
  | some (.val p) => .ok p e s
  | _ => .bad
variable {pos p1 p2 : Pos}
theorem me_var (i : Nat) {x : Str} (hN : X.N[i]? = some x := by rfl) (hv : Vis X.env.scope x := by first | exact Or.inl rfl | exact Or.inr (Or.inl rfl) | exact Or.inr (Or.inr rfl)) (hd : (x == ("__debug__" : Str)) = false := by decide)
    (hcd : (x == ("__classdict__" : Str)) = false := by decide) : ME X z (.Name x pos) (dVar i) := by
  refine (pe_var hN hv hd hcd).imp fun σ H Q ⟨G, env, S, e, A, P⟩ => ?_
  unfold dVar at P
  cases q : env[i]? with
  | none => rw [q] at P; exact P.elim
  | some s =>
    rw [q] at P
    cases s with
    | none => exact P.elim
    | exc a d w => exact P.elim
    | own xs => exact P.elim
    | val p =>
      obtain ⟨v, e1, r⟩ := A.en.val i p q
      subst e
      exact ⟨v, e1, P v G (Mon.refl G) A r⟩
theorem me_c {e : Expr} {v : V} {p : PV} (h : PE X e (tC v)) (hr : ∀ G, Rep z.K G p v) : ME X z e (ret p) :=
  h.imp fun σ H Q ⟨G, env, S, e, A, P⟩ => by
    subst e
    exact P v G (Mon.refl G) A (hr G)
theorem me_int {i : Int} {j} : ME X z (.Constant (.int i) j pos) (ret (.int i)) := me_c pe_int fun _ => .int i
theorem me_bl {b : Bool} {j} : ME X z (.Constant (.bool b) j pos) (ret (.bl b)) := me_c pe_bl fun _ => .bl b
theorem me_non {j} : ME X z (.Constant .none j pos) (ret .non) := me_c pe_non fun _ => .non
theorem me_str {x : Str} {j} : ME X z (.Constant (.str x) j pos) (ret (.str x)) := me_c pe_str fun _ => .str x
/-- a module's name: a constant, or a def or class as a value -/
theorem me_glob {x : Str} {v : V} {u : Value} {p : PV} (hm : X.mg x = some u) (r : RelV v u) (hr : ∀ G, Rep z.K G p v) (hg : Gl X x := by rfl) (hd : (x == ("__debug__" : Str)) = false := by decide) : ME X z (.Name x pos) (ret p) := me_c (pe_glob hg hm r hd) hr
theorem me_gint {x : Str} {i : Int} {t : Tok} (hm : X.mg x = some (.int i t)) (hg : Gl X x := by rfl) (hd : (x == ("__debug__" : Str)) = false := by decide) : ME X z (.Name x pos) (ret (.int i)) := me_glob (v := .int i) hm ⟨_, rfl⟩ (fun _ => .int i) hg hd
theorem me_ty {x : Str} {n : String} (hm : X.mg x = none) (hv : bootBuiltins x = some (.type n)) (hg : Gl X x := by rfl) (hn : x ≠ "__name__" := by decide) (hd : (x == ("__debug__" : Str)) = false := by decide) : ME X z (.Name x pos) (ret (.raw (.ty n))) :=
  me_c (pe_bltn (v := .ty n) hg hm hv rfl hn hd) fun _ => .raw _

/-! ### arguments, displays -/
def dNil : Cd (List PV) := ret []
def dCons (d : Cd PV) (r : Cd (List PV)) : Cd (List PV) := bnd d fun p => bnd r fun ps => ret (p :: ps)
theorem ma_nil : MA X z [] dNil := pa_nil.imp fun σ H Q ⟨G, env, S, e, A, P⟩ => by
  subst e
  exact P [] G (Mon.refl G) A .nil
theorem ma_cons {e : Expr} {es : List Expr} {d : Cd PV} {r : Cd (List PV)} (ha : ME X z e d) (hr : MA X z es r) (hs : starEach (e :: es) X.env = (false, eval e X.env) :: starEach es X.env := by rfl) : MA X z (e :: es) (dCons d r) := by
  refine (pa_cons ha hr hs).imp fun σ H Q ⟨G, env, S, e, A, P⟩ => ?_
  subst e
  exact toE lwA A P fun p env1 S1 v G1 m1 A1 r1 P1 => toA lwA A1 P1 fun ps env2 S2 vs G2 m2 A2 r2 P2 => P2 (v :: vs) G2 (Mon.refl _) A2 (.cons (r1.mon m2) r2)
def dTup (d : Cd (List PV)) : Cd PV := bnd d fun ps => if ps.length ≤ sizeLine then ret (.tup ps) else fun _ _ => .bad
theorem me_tup {es : List Expr} {d : Cd (List PV)} {x1} (h : MA X z es d) : ME X z (.Tuple es x1 pos) (dTup d) := by
  refine (pe_tup h).imp fun σ H Q ⟨G, env, S, e, A, P⟩ => ?_
  subst e
  refine toA lwE A P fun ps env1 S1 vs G1 m1 A1 r1 P1 => ?_
  by_cases hl : ps.length ≤ sizeLine
  · rw [if_pos hl] at P1
    refine ⟨by rw [← r1.length]; exact hl, fun p hn => ?_⟩
    have M : Mon G1 (G1.frozen p (.tup vs)) := (Ext.frozen hn).mon A1.sure
    exact P1 _ _ M (A1.frozen hn) (.tup (.inl ⟨.inr rfl, upd_same⟩) (r1.mon M))
  · rw [if_neg hl] at P1
    exact P1.elim
def dDisp (d : Cd (List PV)) : Cd (List PV) := bnd d fun ps => if ps.length ≤ sizeLine then ret ps else fun _ _ => .bad
theorem mf_disp {es : List Expr} {d : Cd (List PV)} (h : MA X z es d) : MF X z (.List es pos) (dDisp d) := by
  refine (pe_lst h).imp fun σ H Q ⟨G, env, S, e, A, P⟩ => ?_
  subst e
  refine toA lwF A P fun ps env1 S1 vs G1 m1 A1 r1 P1 => ?_
  by_cases hl : ps.length ≤ sizeLine
  · rw [if_pos hl] at P1
    refine ⟨by rw [← r1.length]; exact hl, fun p hn => ?_⟩
    have M : Mon G1 (G1.fresh p (.lst vs)) := (Ext.fresh hn).mon A1.sure
    have q := A1.alone (vs := vs) hn
    exact P1 p vs _ M (A1.fresh hn) (r1.mon M) q.at_ q.nf q.nm q.n0 q.no
  · rw [if_neg hl] at P1
    exact P1.elim
/-- a new list as a value: nobody changes it from here on -/
def dFrz (d : Cd (List PV)) : Cd PV := bnd d fun xs => ret (.lst xs)
theorem me_frz {e : Expr} {d : Cd (List PV)} (h : MF X z e d) : ME X z e (dFrz d) := by
  refine PE.imp h fun σ H Q ⟨G, env, S, e, A, P⟩ => ?_
  subst e
  exact toF lwE A P fun xs env1 S1 a vs G1 m1 A1 r1 al P1 => P1 (.ref a) (G1.freeze a) mon_freeze (A1.freeze al) (.lst (.inr rfl) al.at_ (r1.mon mon_freeze))
/-- a new shared list -/
def dNew (d : Cd (List PV)) : Cd PV := bnd d fun xs => fun e s => .ok (.ref s.length) e (s ++ [.lst xs])
theorem me_new {e : Expr} {d : Cd (List PV)} (h : MF X z e d) : ME X z e (dNew d) := by
  refine PE.imp h fun σ H Q ⟨G, env, S, e, A, P⟩ => ?_
  subst e
  refine toF lwE A P fun xs env1 S1 a vs G1 m1 A1 r1 al P1 => ?_
  have M : Mon G1 ⟨G1.m ++ [a], G1.fz, G1.H⟩ := ⟨⟨[a], rfl⟩, fun b h => ⟨h, rfl⟩⟩
  refine P1 (.ref a) ⟨G1.m ++ [a], G1.fz, G1.H⟩ M ⟨⟨?_, ?_, fun b hb h => ?_, fun i b o h1 h2 => ?_⟩, A1.en.over M fun i b ho e => ⟨rfl, ?_, fun hb => ?_⟩, ?_, A1.mine, A1.sure⟩ (.ref ?_)
  · simp [A1.st.len]
  · exact List.nodup_append.mpr ⟨A1.st.nd, by simp, fun b hb c hc e => al.nm (by
      have : c = a := by simpa using hc
      rw [← this, ← e]; exact hb)⟩
  · rcases List.mem_append.mp hb with hb | hb
    · exact A1.st.nf b hb h
    · have : b = a := by simpa using hb
      rw [this] at h; exact al.nf h
  · by_cases hi : i < G1.m.length
    · rw [List.getElem?_append_left hi] at h1
      rw [List.getElem?_append_left (by rw [← A1.st.len]; exact hi)] at h2
      exact (A1.st.ob i b o h1 h2).mono M
    · have hi2 : i = G1.m.length := by
        have := (List.getElem?_eq_some_iff.mp h1).1
        simp at this
        omega
      subst hi2
      rw [List.getElem?_append_right (Nat.le_refl _)] at h1
      rw [A1.st.len, List.getElem?_append_right (Nat.le_refl _)] at h2
      simp at h1 h2
      subst h1 h2
      exact ⟨vs, al.at_, r1.mon M⟩
  · obtain ⟨xs', ho⟩ := ho
    obtain ⟨c, ws, e1, _, _, n1, _⟩ := A1.en.own i xs' ho
    rw [e] at e1; cases e1
    exact n1
  · rcases List.mem_append.mp hb with hb | hb
    · obtain ⟨xs', ho⟩ := ho
      obtain ⟨c, ws, e1, _, _, _, n2⟩ := A1.en.own i xs' ho
      rw [e] at e1; cases e1
      exact n2 hb
    · have : b = a := by simpa using hb
      rw [this] at e
      exact al.no i ho e
  · obtain ⟨r, q⟩ := A1.ent.pre
    exact ⟨⟨r ++ [a], by show G1.m ++ [a] = _; rw [q, List.append_assoc]⟩, fun b hb => (List.mem_append.mp hb).elim (A1.ent.new b) fun h => .inr (by
      have : b = a := by simpa using h
      rw [this]; exact al.n0), A1.ent.fz, A1.ent.fzn, A1.ent.keep, A1.ent.there⟩
  · show (G1.m ++ [a])[S1.length]? = some a
    rw [← A1.st.len]
    simp

/-! ### operators by values -/
/-- g is served by f: values in, a value out, new things at most -/
def OpD (X : Cx) (z : Zx) (g : Value → Value → Sem Value) (f : Stt → PV → PV → Option PV) : Prop :=
  ∃ r : R2, OpR X g r ∧ ∀ (G : Wd) (S : Stt) (p q w : PV) (x y : V) (Q : VK), f S p q = some w → RepS z.K G S → Sure G → Rep z.K G p x → Rep z.K G q y →
    (∀ v G', Ext G G' → Sure G' → Rep z.K G' w v → Q v G'.H) → r x y G.H Q
theorem OpD.or {g : Value → Value → Sem Value} {f f' : Stt → PV → PV → Option PV} (h : OpD X z g f) (h' : OpD X z g f') : OpD X z g (fun S p q => (f S p q).or (f' S p q)) := by
  obtain ⟨r, o, k⟩ := h
  obtain ⟨r', o', k'⟩ := h'
  refine ⟨_, o.or o', fun G S p q w x y Q e s su rp rq hq => ?_⟩
  replace e : (f S p q).or (f' S p q) = some w := e
  cases e1 : f S p q with
  | some w' =>
    rw [e1, Option.some_or] at e
    exact .inl (k G S p q w x y Q (by rw [e1, e]) s su rp rq hq)
  | none =>
    rw [e1, Option.none_or] at e
    exact .inr (k' G S p q w x y Q e s su rp rq hq)
def dOp (f : Stt → PV → PV → Option PV) (da db : Cd PV) : Cd PV := bnd da fun p => bnd db fun q => fun e s => match f s p q with
  | some w => .ok w e s
  | none => .bad
theorem re_op {g : Value → Value → Sem Value} {f : Stt → PV → PV → Option PV} {da db : Cd PV} {r : R2} {σ : St} {H : Hp} {Q : VK}
    (k : ∀ (G : Wd) (S : Stt) (p q w : PV) (x y : V) (Q : VK), f S p q = some w → RepS z.K G S → Sure G → Rep z.K G p x → Rep z.K G q y → (∀ v G', Ext G G' → Sure G' → Rep z.K G' w v → Q v G'.H) → r x y G.H Q)
    (h : RE z (dOp f da db) σ H Q) : tOp r (RE z da) (RE z db) σ H Q := by
  obtain ⟨G, env, S, e, A, P⟩ := h
  subst e
  refine toE lwE A P fun p env1 S1 x G1 m1 A1 r1 P1 => toE lwE A1 P1 fun q env2 S2 y G2 m2 A2 r2 P2 => ?_
  cases e : f S2 p q with
  | none => simp only [e] at P2; exact P2.elim
  | some w =>
    simp only [e] at P2
    exact k G2 S2 p q w x y Q e A2.st A2.sure (r1.mon m2) r2 fun v G' xx su rv => P2 v G' (xx.mon A2.sure) (A2.ext xx su) rv
variable {a b : Expr} {da db : Cd PV}
theorem me_op {op : Operator} {f : Stt → PV → PV → Option PV} (o : OpD X z (binaryOp op) f) (ha : ME X z a da) (hb : ME X z b db) : ME X z (.BinOp a op b pos) (dOp f da db) := by
  obtain ⟨r, o, k⟩ := o
  exact (pe_op o ha hb).imp fun σ H Q h => re_op (g := binaryOp op) k h
theorem me_cmp {op : CmpOp} {f : Stt → PV → PV → Option PV} (o : OpD X z (compareOp op) f) (ha : ME X z a da) (hb : ME X z b db) (hm : behindInMarks op b = false) : ME X z (.Compare a [op] [b] pos) (dOp f da db) := by
  obtain ⟨r, o, k⟩ := o
  exact (pe_cmpR o ha hb hm).imp fun σ H Q h => re_op (g := compareOp op) k h
/-- an answer as a truth -/
def asB : PV → Option Bool
  | .bl b => some b
  | _ => none
def dB (d : Cd PV) : Cd Bool := bnd d fun p => lift (asB p)
theorem asB_rep {p : PV} {b : Bool} {K : PySem.W.Frag} {G : Wd} {v : V} (h : asB p = some b) (r : Rep K G p v) : v = .bl b := by
  cases p with
  | bl c =>
    cases r
    have : c = b := Option.some.inj h
    rw [this]
  | _ => cases h
theorem rt_b {d : Cd PV} {σ : St} {H : Hp} {Q : Bool → Hp → Prop} (h : RT z (dB d) σ H Q) : RE z d σ H fun x H' => ∃ k, x = .bl k ∧ Q k H' := by
  obtain ⟨G, env, S, e, A, P⟩ := h
  subst e
  refine toE lwT A P fun p env1 S1 x G1 m1 A1 r1 P1 => ?_
  unfold lift at P1
  cases e : asB p with
  | none => simp only [e] at P1; exact P1.elim
  | some k =>
    simp only [e] at P1
    exact ⟨k, asB_rep e r1, P1 G1 (Mon.refl _) A1⟩
/-- an expression whose value is True or False, as a test -/
theorem mt_val {e : Expr} {d : Cd PV} (h : ME X z e d) (he : ∀ whole, isTrue e X.env whole = (do let v ← whole; standAt e.pos; holding [v] (truthy v)) := by intro _; rfl) : MT X z e (dB d) :=
  (pt_val h he).imp fun σ H Q q => rt_b q
theorem mt_cmp {op : CmpOp} {f : Stt → PV → PV → Option PV} (o : OpD X z (compareOp op) f) (ha : ME X z a da) (hb : ME X z b db) (hm : behindInMarks op b = false) : MT X z (.Compare a [op] [b] pos) (dB (dOp f da db)) := by
  obtain ⟨r, o, k⟩ := o
  refine (pt_cmpR o ha hb hm).imp fun σ H Q h => ?_
  have h' := rt_b h
  exact re_op (g := compareOp op) k h'
/-- a < b < c -/
def dChain (f f' : Stt → PV → PV → Option PV) (da db dc : Cd PV) : Cd PV := bnd da fun p => bnd db fun q => fun e s => match f s p q with
  | some (.bl true) => bnd dc (fun r => fun e' s' => match f' s' q r with
    | some w => .ok w e' s'
    | none => .bad) e s
  | some (.bl false) => .ok (.bl false) e s
  | _ => .bad
theorem re_chain {g g' : Value → Value → Sem Value} {f f' : Stt → PV → PV → Option PV} {da db dc : Cd PV} {r r' : R2} {σ : St} {H : Hp} {Q : VK}
    (k : ∀ (G : Wd) (S : Stt) (p q w : PV) (x y : V) (Q : VK), f S p q = some w → RepS z.K G S → Sure G → Rep z.K G p x → Rep z.K G q y → (∀ v G', Ext G G' → Sure G' → Rep z.K G' w v → Q v G'.H) → r x y G.H Q)
    (k' : ∀ (G : Wd) (S : Stt) (p q w : PV) (x y : V) (Q : VK), f' S p q = some w → RepS z.K G S → Sure G → Rep z.K G p x → Rep z.K G q y → (∀ v G', Ext G G' → Sure G' → Rep z.K G' w v → Q v G'.H) → r' x y G.H Q)
    (h : RE z (dChain f f' da db dc) σ H Q) : tChain r r' (RE z da) (RE z db) (RE z dc) σ H Q := by
  obtain ⟨G, env, S, e, A, P⟩ := h
  subst e
  refine toE lwE A P fun p env1 S1 x G1 m1 A1 r1 P1 => toE lwE A1 P1 fun q env2 S2 y G2 m2 A2 r2 P2 => ?_
  cases e : f S2 p q with
  | none => simp only [e] at P2; exact P2.elim
  | some w =>
    simp only [e] at P2
    refine k G2 S2 p q w x y _ e A2.st A2.sure (r1.mon m2) r2 fun v G' xx su rv => ?_
    have M := xx.mon A2.sure
    have A3 := A2.ext xx su
    cases w with
    | bl c =>
      cases rv
      refine ⟨c, rfl, ?_⟩
      cases c with
      | false =>
        rw [if_neg Bool.false_ne_true]
        exact P2 (.bl false) G' M A3 (.bl false)
      | true =>
        rw [if_pos rfl]
        refine toE lwE A3 (P2.later M) fun t env4 S4 u G4 m4 A4 r4 P4 => ?_
        cases e' : f' S4 q t with
        | none => simp only [e'] at P4; exact P4.elim
        | some w' =>
          simp only [e'] at P4
          exact k' G4 S4 q t w' y u Q e' A4.st A4.sure ((r2.mon M).mon m4) r4 fun v G' xx su rv => P4 v G' (xx.mon A4.sure) (A4.ext xx su) rv
    | _ => exact P2.elim
theorem me_chain {c : Expr} {op op' : CmpOp} {f f' : Stt → PV → PV → Option PV} {dc : Cd PV} (o : OpD X z (compareOp op) f) (o' : OpD X z (compareOp op') f') (ha : ME X z a da) (hb : ME X z b db) (hc : ME X z c dc)
    (hm : lastMarks [op, op'] [b, c] = false := by with_unfolding_all rfl) : ME X z (.Compare a [op, op'] [b, c] pos) (dChain f f' da db dc) := by
  obtain ⟨r, o, k⟩ := o
  obtain ⟨r', o', k'⟩ := o'
  exact (pe_chain o o' ha hb hc hm).imp fun σ H Q h => re_chain (g := compareOp op) (g' := compareOp op') k k' h
theorem mt_chain {c : Expr} {op op' : CmpOp} {f f' : Stt → PV → PV → Option PV} {dc : Cd PV} (o : OpD X z (compareOp op) f) (o' : OpD X z (compareOp op') f') (ha : ME X z a da) (hb : ME X z b db) (hc : ME X z c dc)
    (hm : lastMarks [op, op'] [b, c] = false := by with_unfolding_all rfl) : MT X z (.Compare a [op, op'] [b, c] pos) (dB (dChain f f' da db dc)) := by
  obtain ⟨r, o, k⟩ := o
  obtain ⟨r', o', k'⟩ := o'
  refine (pt_chain o o' ha hb hc hm).imp fun σ H Q h => ?_
  exact re_chain (g := compareOp op) (g' := compareOp op') k k' (rt_b h)

/-! ### truth, and, or, not, if -/
/-- a value's truth -/
def tru (S : Stt) : PV → Option Bool
  | .non => some false
  | .bl b => some b
  | .int i => some (i != 0)
  | .tup xs => some (!xs.isEmpty)
  | .lst xs => some (!xs.isEmpty)
  | .scr ns => some (!ns.isEmpty)
  | .ref n => match S[n]? with
    | some (.lst xs) => some (!xs.isEmpty)
    | none => none
  | _ => none
theorem isEmpty_rep {K : PySem.W.Frag} {G : Wd} {ps : List PV} {vs : List V} (r : RepL K G ps vs) : ps.isEmpty = vs.isEmpty := by
  cases r <;> rfl
theorem sqT_any {K : PySem.W.Frag} {H : Hp} {a : Addr} {xs : List V} (h : SqT K noH a xs) : SqT K H a xs := by
  rcases h with (h | ⟨o, h⟩) | h
  · cases h
  · cases h
  · exact .inr h
theorem Rep.sqT {K : PySem.W.Frag} {G : Wd} {xs : List PV} {v : V} (r : Rep K G (.tup xs) v) : ∃ a vs, v = .ref a ∧ SqT K G.H a vs ∧ RepL K G xs vs := by
  cases r with
  | tup h r =>
    refine ⟨_, _, rfl, ?_, r⟩
    rcases h with ⟨_, h⟩ | h
    · exact SqT.of h
    · exact sqT_any h
theorem Rep.sqL {K : PySem.W.Frag} {G : Wd} {xs : List PV} {v : V} (r : Rep K G (.lst xs) v) : ∃ a vs, v = .ref a ∧ G.H a = some (.lst vs) ∧ RepL K G xs vs := by
  cases r with
  | lst _ h r => exact ⟨_, _, rfl, h, r⟩
theorem Rep.sqR {K : PySem.W.Frag} {G : Wd} {S : Stt} {n : Nat} {xs : List PV} {v : V} (r : Rep K G (.ref n) v) (s : RepS K G S) (e : S[n]? = some (.lst xs)) : ∃ a vs, v = .ref a ∧ G.m[n]? = some a ∧ G.H a = some (.lst vs) ∧ RepL K G xs vs := by
  cases r with
  | ref h =>
    obtain ⟨vs, e1, r1⟩ := s.ob _ _ _ h e
    exact ⟨_, vs, rfl, h, e1, r1⟩
theorem sqL_any {K : PySem.W.Frag} {H : Hp} {a : Addr} {xs : List V} (h : SqL K noH a xs) : SqL K H a xs := by
  rcases h with (h | ⟨o, h⟩) | h
  · cases h
  · cases h
  · exact .inr h
theorem Rep.scrM {K : PySem.W.Frag} {G : Wd} {ns : List Int} {v : V} (r : Rep K G (.scr ns) v) : ∃ a, v = .ref a ∧ ∀ G1, Mon G G1 → SqL K G1.H a (ns.map V.int) := by
  cases r with
  | scr h =>
    refine ⟨_, rfl, fun G1 M => ?_⟩
    rcases h with ⟨h1, h2⟩ | h
    · exact SqL.of_eq (M.fz _ h1).2 h2
    · exact sqL_any h
theorem Rep.sqS {K : PySem.W.Frag} {G : Wd} {ns : List Int} {v : V} (r : Rep K G (.scr ns) v) : ∃ a, v = .ref a ∧ SqL K G.H a (ns.map V.int) := by
  obtain ⟨a, e, h⟩ := r.scrM
  exact ⟨a, e, h G (Mon.refl G)⟩
theorem tru_rep {K : PySem.W.Frag} {G : Wd} {S : Stt} {p : PV} {v : V} {k : Bool} (h : tru S p = some k) (s : RepS K G S) (r : Rep K G p v) : TruV K v G.H k := by
  cases p with
  | non => cases r; exact (Option.some.inj h).symm
  | bl b => cases r; exact (Option.some.inj h).symm
  | int i => cases r; exact (Option.some.inj h).symm
  | str x => cases h
  | tup xs =>
    obtain ⟨a, vs, rfl, q, r'⟩ := r.sqT
    exact .inr (.inl ⟨vs, q, by rw [← isEmpty_rep r']; exact (Option.some.inj h).symm⟩)
  | lst xs =>
    obtain ⟨a, vs, rfl, q, r'⟩ := r.sqL
    exact .inl ⟨vs, SqL.of q, by rw [← isEmpty_rep r']; exact (Option.some.inj h).symm⟩
  | scr ns =>
    obtain ⟨a, rfl, q⟩ := r.sqS
    refine .inl ⟨_, q, ?_⟩
    rw [← Option.some.inj h]
    cases ns <;> rfl
  | ref n =>
    unfold tru at h
    cases e : S[n]? with
    | none => simp only [e] at h; cases h
    | some o =>
      cases o with
      | lst xs =>
        simp only [e] at h
        obtain ⟨a, vs, rfl, _, q, r'⟩ := r.sqR s e
        exact .inl ⟨vs, SqL.of q, by rw [← isEmpty_rep r']; exact (Option.some.inj h).symm⟩
  | raw v => cases h
def dTru (d : Cd PV) : Cd Bool := bnd d fun p => fun e s => match tru s p with
  | some b => .ok b e s
  | none => .bad
theorem mt_tru {e : Expr} {d : Cd PV} (h : ME X z e d) (hK : z.K = X.K := by rfl) (he : ∀ whole, isTrue e X.env whole = (do let v ← whole; standAt e.pos; holding [v] (truthy v)) := by intro _; rfl) : MT X z e (dTru d) := by
  refine (pt_truth h he).imp fun σ H Q ⟨G, env, S, e, A, P⟩ => ?_
  subst e
  refine toE lwT A P fun p env1 S1 x G1 m1 A1 r1 P1 => ?_
  cases e : tru S1 p with
  | none => simp only [e] at P1; exact P1.elim
  | some k =>
    simp only [e] at P1
    exact ⟨k, by rw [← hK]; exact tru_rep e A1.st r1, P1 G1 (Mon.refl _) A1⟩
def dNotT (d : Cd Bool) : Cd Bool := bnd d fun b => ret (!b)
def dAndT (d r : Cd Bool) : Cd Bool := bnd d fun b => if b = true then r else ret false
def dOrT (d r : Cd Bool) : Cd Bool := bnd d fun b => if b = true then ret true else r
theorem mt_not {d : Cd Bool} (h : MT X z a d) : MT X z (.UnaryOp .Not a pos) (dNotT d) :=
  (pt_not h).imp fun σ H Q ⟨G, env, S, e, A, P⟩ => by
    subst e
    exact toT lwT A P fun b env1 S1 G1 m1 A1 P1 => P1 G1 (Mon.refl _) A1
abbrev MW (X : Cx) (z : Zx) (e : Expr) (d : Cd Bool) : Prop := PW X e (RT z d)
theorem _root_.L2.PW.imp {e : Expr} {t t' : TT} (h : PW X e t) (i : ∀ σ H Q, t' σ H Q → t σ H Q) : PW X e t' := ⟨fun wh pins s σ H Q I q => h.run wh pins s σ H Q I (i σ H Q q)⟩
theorem mw_and1 {d : Cd Bool} (h : MT X z a d) : MW X z (.BoolOp .And [a] pos) d := pw_and1 h
theorem mw_or1 {d : Cd Bool} (h : MT X z a d) : MW X z (.BoolOp .Or [a] pos) d := pw_or1 h
theorem mw_and {rest : List Expr} {d r : Cd Bool} (h : MT X z a d) (hr : MW X z (.BoolOp .And (b :: rest) pos) r) : MW X z (.BoolOp .And (a :: b :: rest) pos) (dAndT d r) :=
  (pw_and h hr).imp fun σ H Q ⟨G, env, S, e, A, P⟩ => by
    subst e
    refine toT lwT A P fun k env1 S1 G1 m1 A1 P1 => ?_
    cases k with
    | true => exact ⟨G1, env1, S1, rfl, A1, P1⟩
    | false => exact P1 G1 (Mon.refl _) A1
theorem mw_or {rest : List Expr} {d r : Cd Bool} (h : MT X z a d) (hr : MW X z (.BoolOp .Or (b :: rest) pos) r) : MW X z (.BoolOp .Or (a :: b :: rest) pos) (dOrT d r) :=
  (pw_or h hr).imp fun σ H Q ⟨G, env, S, e, A, P⟩ => by
    subst e
    refine toT lwT A P fun k env1 S1 G1 m1 A1 P1 => ?_
    cases k with
    | true => exact P1 G1 (Mon.refl _) A1
    | false => exact ⟨G1, env1, S1, rfl, A1, P1⟩
theorem mt_w {e : Expr} {d : Cd Bool} (h : MW X z e d) : MT X z e d := PW.pt h
/-- .. as values: all but the last True or False -/
def dAndV (d r : Cd PV) : Cd PV := bnd (dB d) fun b => if b = true then r else ret (.bl false)
def dOrV (d r : Cd PV) : Cd PV := bnd (dB d) fun b => if b = true then ret (.bl true) else r
theorem me_one {op} {d : Cd PV} (h : ME X z a d) : ME X z (.BoolOp op [a] pos) d := pe_one h
theorem bnd_assoc {α β γ : Type} (d : Cd α) (k : α → Cd β) (l : β → Cd γ) : bnd (bnd d k) l = bnd d fun a => bnd (k a) l := by
  funext e s
  unfold bnd
  cases d e s <;> rfl
theorem toB {β : Type} {F : Wd → Out β → Prop} {G : Wd} {env : Env} {S : Stt} {σ : St} (L : Lw z F) {d : Cd PV} {k : Bool → Cd β} {R : VK} (A : At z.K z.G0 G S env σ) (P : F G (bnd (dB d) k env S))
    (h : ∀ b env1 S1 G1, Mon G G1 → At z.K z.G0 G1 S1 env1 σ → F G1 (k b env1 S1) → R (.bl b) G1.H) : RE z d σ G.H R := by
  unfold dB at P
  rw [bnd_assoc] at P
  refine toE L A P fun p env1 S1 v G1 m1 A1 r1 P1 => ?_
  unfold lift bnd at P1
  cases e : asB p with
  | none => simp only [e] at P1; exact (L.bad _ P1).elim
  | some c =>
    simp only [e] at P1
    rw [asB_rep e r1]
    exact h c env1 S1 G1 m1 A1 P1
theorem me_and {rest : List Expr} {d r : Cd PV} (h : ME X z a d) (hr : ME X z (.BoolOp .And (b :: rest) pos) r) : ME X z (.BoolOp .And (a :: b :: rest) pos) (dAndV d r) :=
  (pe_and h hr).imp fun σ H Q ⟨G, env, S, e, A, P⟩ => by
    subst e
    refine toB lwE A P fun k env1 S1 G1 m1 A1 P1 => ⟨k, rfl, ?_⟩
    cases k with
    | true => exact ⟨G1, env1, S1, rfl, A1, P1⟩
    | false => exact P1 (.bl false) G1 (Mon.refl _) A1 (.bl false)
theorem me_or {rest : List Expr} {d r : Cd PV} (h : ME X z a d) (hr : ME X z (.BoolOp .Or (b :: rest) pos) r) : ME X z (.BoolOp .Or (a :: b :: rest) pos) (dOrV d r) :=
  (pe_or h hr).imp fun σ H Q ⟨G, env, S, e, A, P⟩ => by
    subst e
    refine toB lwE A P fun k env1 S1 G1 m1 A1 P1 => ⟨k, rfl, ?_⟩
    cases k with
    | true => exact P1 (.bl true) G1 (Mon.refl _) A1 (.bl true)
    | false => exact ⟨G1, env1, S1, rfl, A1, P1⟩
def dNotV (d : Cd PV) : Cd PV := bnd (dB d) fun b => ret (.bl (!b))
theorem me_not {d : Cd PV} (h : ME X z a d) : ME X z (.UnaryOp .Not a pos) (dNotV d) :=
  (pe_not h).imp fun σ H Q ⟨G, env, S, e, A, P⟩ => by
    subst e
    exact toB lwE A P fun k env1 S1 G1 m1 A1 P1 => ⟨k, rfl, P1 _ G1 (Mon.refl _) A1 (.bl _)⟩
def dIfE (t : Cd Bool) (da db : Cd PV) : Cd PV := bnd t fun b => if b = true then da else db
theorem me_if {t : Expr} {d : Cd Bool} (ht : MT X z t d) (ha : ME X z a da) (hb : ME X z b db) : ME X z (.IfExp t a b pos) (dIfE d da db) :=
  (pe_ifExp ht ha hb).imp fun σ H Q ⟨G, env, S, e, A, P⟩ => by
    subst e
    refine toT lwE A P fun k env1 S1 G1 m1 A1 P1 => ?_
    cases k with
    | true => exact ⟨G1, env1, S1, rfl, A1, P1⟩
    | false => exact ⟨G1, env1, S1, rfl, A1, P1⟩
def dUn (f : PV → Option PV) (d : Cd PV) : Cd PV := bnd d fun p => lift (f p)
def pNeg : PV → Option PV
  | .int i => some (.int (-i))
  | _ => none
theorem me_neg {d : Cd PV} (h : ME X z a d) : ME X z (.UnaryOp .USub a pos) (dUn pNeg d) :=
  (pe_un un_neg h).imp fun σ H Q ⟨G, env, S, e, A, P⟩ => by
    subst e
    refine toE lwE A P fun p env1 S1 v G1 m1 A1 r1 P1 => ?_
    cases p with
    | int i =>
      cases r1
      exact ⟨i, rfl, P1 _ G1 (Mon.refl _) A1 (.int _)⟩
    | _ => exact P1.elim
end
end FS

set_option Elab.async false
set_option linter.all false
set_option maxRecDepth 100000
/-! FsStmt: statements. -/
namespace FS
open PySem PySem.Spec L2

theorem getElem?_set' {α : Type} (l : List α) (i j : Nat) (a : α) : (l.set i a)[j]? = if i = j then (if i < l.length then some a else none) else l[j]? := by
  by_cases h : i = j
  · subst h
    rw [if_pos rfl]
    by_cases hl : i < l.length
    · rw [if_pos hl, List.getElem?_set_self hl]
    · rw [if_neg hl, List.getElem?_eq_none (by rw [List.length_set]; omega)]
  · rw [if_neg h, List.getElem?_set_ne h]
section
variable {z : Zx} {G : Wd} {env : Env} {S : Stt} {σ : St} {i : Nat}
theorem IsOwn.set_ne {j : Nat} {s : Slot} (h : IsOwn (env.set i s) j) (hn : i ≠ j) : IsOwn env j := by
  obtain ⟨xs, e⟩ := h
  rw [List.getElem?_set_ne hn] at e
  exact ⟨xs, e⟩
/-- a place's value is replaced by one that is not held alone -/
theorem At.setSlot0 {s : Slot} {v : Option V} (A : At z.K z.G0 G S env σ) (hs : (s = .none) ∨ (∃ p w, s = .val p ∧ v = some w ∧ Rep z.K G p w) ∨ ∃ a d w, s = .exc a d w ∧ v = some (.ref a) ∧ G.fz d ∧ ∃ u, G.H d = some (.xd [(("what" : Str), u)]) ∧ Rep z.K G w u) : At z.K z.G0 G S (env.set i s) (σ.set i v) := by
  have hno : ∀ xs, s ≠ .own xs := fun xs e => by
    rcases hs with h | ⟨p, w, h, _⟩ | ⟨a, d, w, h, _⟩ <;> (rw [h] at e; cases e)
  have own' : ∀ (j : Nat) (xs : List PV), (env.set i s)[j]? = some (.own xs) → i ≠ j ∧ env[j]? = some (.own xs) := fun j xs e => by
    rw [getElem?_set'] at e
    by_cases hj : i = j
    · rw [if_pos hj] at e
      by_cases hl : i < env.length
      · rw [if_pos hl] at e
        exact absurd (Option.some.inj e) (hno xs)
      · rw [if_neg hl] at e; cases e
    · rw [if_neg hj] at e
      exact ⟨hj, e⟩
  refine ⟨A.st, ⟨by rw [List.length_set, List.length_set]; exact A.en.len, fun j p e => ?_, fun j xs e => ?_, fun j b d w e => ?_, fun j k a h1 h2 e1 e2 => ?_⟩, A.ent, fun j a h e => ?_, A.sure⟩
  · rw [getElem?_set'] at e
    by_cases hj : i = j
    · rw [if_pos hj] at e
      by_cases hl : i < env.length
      · rw [if_pos hl] at e
        have e' := Option.some.inj e
        rcases hs with h | ⟨q, w, h, hv, r⟩ | ⟨b, d, w, h, _⟩
        · rw [h] at e'; cases e'
        · rw [h] at e'; cases e'
          exact ⟨w, by rw [getElem?_set', if_pos hj, if_pos (by rw [← A.en.len]; exact hl), hv], r⟩
        · rw [h] at e'; cases e'
      · rw [if_neg hl] at e; cases e
    · rw [if_neg hj] at e
      obtain ⟨w, e1, r⟩ := A.en.val j p e
      exact ⟨w, by rw [List.getElem?_set_ne hj]; exact e1, r⟩
  · obtain ⟨hj, e⟩ := own' j xs e
    obtain ⟨a, vs, e1, r⟩ := A.en.own j xs e
    exact ⟨a, vs, by rw [List.getElem?_set_ne hj]; exact e1, r⟩
  · rw [getElem?_set'] at e
    by_cases hj : i = j
    · rw [if_pos hj] at e
      by_cases hl : i < env.length
      · rw [if_pos hl] at e
        have e' := Option.some.inj e
        rcases hs with h | ⟨q, w, h, hv, r⟩ | ⟨b, d, w, h, hv, r⟩
        · rw [h] at e'; cases e'
        · rw [h] at e'; cases e'
        · rw [h] at e'; cases e'
          exact ⟨by rw [getElem?_set', if_pos hj, if_pos (by rw [← A.en.len]; exact hl), hv], r⟩
      · rw [if_neg hl] at e; cases e
    · rw [if_neg hj] at e
      obtain ⟨e1, r⟩ := A.en.exc j b d w e
      exact ⟨by rw [List.getElem?_set_ne hj]; exact e1, r⟩
  · obtain ⟨xs, h1⟩ := h1
    obtain ⟨ys, h2⟩ := h2
    obtain ⟨n1, h1⟩ := own' j xs h1
    obtain ⟨n2, h2⟩ := own' k ys h2
    rw [List.getElem?_set_ne n1] at e1
    rw [List.getElem?_set_ne n2] at e2
    exact A.en.dis j k a ⟨xs, h1⟩ ⟨ys, h2⟩ e1 e2
  · obtain ⟨xs, h⟩ := h
    obtain ⟨n1, h⟩ := own' j xs h
    rw [List.getElem?_set_ne n1] at e
    exact A.mine j a ⟨xs, h⟩ e
theorem At.setSlot {s : Slot} {v : Option V} (A : At z.K z.G0 G S env σ) (hs : (s = .none) ∨ ∃ p w, s = .val p ∧ v = some w ∧ Rep z.K G p w) : At z.K z.G0 G S (env.set i s) (σ.set i v) := A.setSlot0 (hs.elim .inl fun h => .inr (.inl h))
theorem At.setVal {p : PV} {v : V} (A : At z.K z.G0 G S env σ) (r : Rep z.K G p v) : At z.K z.G0 G S (env.set i (.val p)) (σ.set i (some v)) := A.setSlot (.inr ⟨p, v, rfl, rfl, r⟩)
theorem At.setOwn {xs : List PV} {a : Addr} {vs : List V} (A : At z.K z.G0 G S env σ) (r : RepL z.K G xs vs) (al : Alone z G env σ a vs) : At z.K z.G0 G S (env.set i (.own xs)) (σ.set i (some (.ref a))) := by
  have cas : ∀ (j : Nat) (ys : List PV), (env.set i (.own xs))[j]? = some (.own ys) → (i = j ∧ i < σ.length ∧ ys = xs) ∨ (i ≠ j ∧ env[j]? = some (.own ys)) := fun j ys e => by
    rw [getElem?_set'] at e
    by_cases hj : i = j
    · rw [if_pos hj] at e
      by_cases hl : i < env.length
      · rw [if_pos hl] at e
        cases e
        exact .inl ⟨hj, by rw [← A.en.len]; exact hl, rfl⟩
      · rw [if_neg hl] at e; cases e
    · rw [if_neg hj] at e
      exact .inr ⟨hj, e⟩
  refine ⟨A.st, ⟨by rw [List.length_set, List.length_set]; exact A.en.len, fun j p e => ?_, fun j ys e => ?_, fun j b d w e => ?_, fun j k b h1 h2 e1 e2 => ?_⟩, A.ent, fun j b h e => ?_, A.sure⟩
  · rw [getElem?_set'] at e
    by_cases hj : i = j
    · rw [if_pos hj] at e
      split at e <;> cases e
    · rw [if_neg hj] at e
      obtain ⟨w, e1, r⟩ := A.en.val j p e
      exact ⟨w, by rw [List.getElem?_set_ne hj]; exact e1, r⟩
  · rcases cas j ys e with ⟨rfl, hl, rfl⟩ | ⟨hj, e⟩
    · exact ⟨a, vs, by rw [List.getElem?_set_self hl], al.at_, r, al.nf, al.nm⟩
    · obtain ⟨b, ws, e1, r⟩ := A.en.own j ys e
      exact ⟨b, ws, by rw [List.getElem?_set_ne hj]; exact e1, r⟩
  · rw [getElem?_set'] at e
    by_cases hj : i = j
    · rw [if_pos hj] at e
      split at e <;> cases e
    · rw [if_neg hj] at e
      obtain ⟨e1, r⟩ := A.en.exc j b d w e
      exact ⟨by rw [List.getElem?_set_ne hj]; exact e1, r⟩
  · obtain ⟨ys, h1⟩ := h1
    obtain ⟨us, h2⟩ := h2
    rcases cas j ys h1 with ⟨rfl, hl, rfl⟩ | ⟨hj, h1⟩
    · rcases cas k us h2 with ⟨rfl, _, _⟩ | ⟨hk, h2⟩
      · rfl
      · rw [List.getElem?_set_self hl] at e1
        cases e1
        rw [List.getElem?_set_ne hk] at e2
        exact absurd e2 (al.no k ⟨us, h2⟩)
    · rw [List.getElem?_set_ne hj] at e1
      rcases cas k us h2 with ⟨rfl, hl, _⟩ | ⟨hk, h2⟩
      · rw [List.getElem?_set_self hl] at e2
        cases e2
        exact absurd e1 (al.no j ⟨ys, h1⟩)
      · rw [List.getElem?_set_ne hk] at e2
        exact A.en.dis j k b ⟨ys, h1⟩ ⟨us, h2⟩ e1 e2
  · obtain ⟨ys, h⟩ := h
    rcases cas j ys h with ⟨rfl, hl, rfl⟩ | ⟨hj, h⟩
    · rw [List.getElem?_set_self hl] at e
      cases e
      exact al.n0
    · rw [List.getElem?_set_ne hj] at e
      exact A.mine j b ⟨ys, h⟩ e
/-- the list that a place alone holds is frozen -/
theorem At.thaw {xs : List PV} (A : At z.K z.G0 G S env σ) (h : env[i]? = some (.own xs)) : ∃ a vs, σ[i]? = some (some (.ref a)) ∧ Alone z G (env.set i .none) σ a vs ∧ RepL z.K G xs vs := by
  obtain ⟨a, vs, e1, e2, r, n1, n2⟩ := A.en.own i xs h
  refine ⟨a, vs, e1, ⟨e2, n1, n2, A.mine i a ⟨xs, h⟩ e1, fun j ho e => ?_⟩, r⟩
  obtain ⟨ys, ho⟩ := ho
  rw [getElem?_set'] at ho
  by_cases hj : i = j
  · rw [if_pos hj] at ho
    split at ho <;> cases ho
  · rw [if_neg hj] at ho
    exact hj (A.en.dis i j a ⟨xs, h⟩ ⟨ys, ho⟩ e1 e)
end

/-! ### targets -/
def PostG (z : Zx) (G : Wd) (Q : St → Hp → Prop) : Out Unit → Prop
  | .ok _ env S => ∀ (σ' : St) (G' : Wd), Mon G G' → At z.K z.G0 G' S env σ' → Q σ' G'.H
  | .raise c w env S => ∀ σ', PRaise z G c w env S σ'
  | .bad => False
theorem PostG.later {z : Zx} {G G1 : Wd} {Q : St → Hp → Prop} {o : Out Unit} (h : PostG z G Q o) (M : Mon G G1) : PostG z G1 Q o := by
  cases o with
  | ok p env S => exact fun σ' G' m a => h σ' G' (M.trans m) a
  | raise c w env S => exact fun σ' => (h σ').later M
  | bad => exact h
theorem lwG {z : Zx} {Q : St → Hp → Prop} : Lw z (fun G o => PostG z G Q o) := ⟨fun _ _ _ h m => h.later m, fun _ _ _ _ _ h => h, fun _ h => h⟩
def RG (z : Zx) (d : PV → Cd Unit) : TG := fun v σ H Q => ∃ G env S p, G.H = H ∧ At z.K z.G0 G S env σ ∧ Rep z.K G p v ∧ PostG z G Q (d p env S)
def RGs (z : Zx) (d : List PV → Cd Unit) : TGs := fun vs σ H Q => ∃ G env S ps, G.H = H ∧ At z.K z.G0 G S env σ ∧ RepL z.K G ps vs ∧ PostG z G Q (d ps env S)
theorem toG {z : Zx} {β : Type} {F : Wd → Out β → Prop} {G : Wd} {env : Env} {S : Stt} {σ : St} (L : Lw z F) {d : PV → Cd Unit} {p : PV} {v : V} {k : Unit → Cd β} {R : St → Hp → Prop} (A : At z.K z.G0 G S env σ) (r : Rep z.K G p v) (P : F G (bnd (d p) k env S))
    (h : ∀ env1 S1 σ1 G1, Mon G G1 → At z.K z.G0 G1 S1 env1 σ1 → F G1 (k () env1 S1) → R σ1 G1.H) : RG z d v σ G.H R := by
  refine ⟨G, env, S, p, rfl, A, r, ?_⟩
  unfold bnd at P
  cases e : d p env S with
  | ok u env1 S1 =>
    rw [e] at P
    exact fun σ1 G1 m a => h env1 S1 σ1 G1 m a (L.later _ _ _ P m)
  | raise c w env1 S1 =>
    rw [e] at P
    exact L.rais _ _ _ _ _ P
  | bad =>
    rw [e] at P
    exact (L.bad _ P).elim
section
variable {X : Cx} {z : Zx} {pos : Pos}
abbrev MG (X : Cx) (z : Zx) (e : Expr) (d : PV → Cd Unit) : Prop := PG X e (RG z d)
abbrev MGs (X : Cx) (z : Zx) (e : List Expr) (d : List PV → Cd Unit) : Prop := PGs X e (RGs z d)
theorem _root_.L2.PG.imp {e : Expr} {t t' : TG} (h : PG X e t) (i : ∀ v σ H Q, t' v σ H Q → t v σ H Q) : PG X e t' := ⟨fun pins s σ H v u Q I r q => h.run pins s σ H v u Q I r (i v σ H Q q)⟩
theorem _root_.L2.PGs.imp {e : List Expr} {t t' : TGs} (h : PGs X e t) (i : ∀ v σ H Q, t' v σ H Q → t v σ H Q) : PGs X e t' := ⟨fun pins s σ H v u Q I r q => h.run pins s σ H v u Q I r (i v σ H Q q)⟩
def gSet (i : Nat) : PV → Cd Unit := fun p e s => .ok () (e.set i (.val p)) s
theorem mg_name (i : Nat) {x : Str} (hN : X.N.Nodup) (hi : X.N[i]? = some x := by rfl) (hx : Loc X.env.scope x := by first | exact Or.inl rfl | exact Or.inr rfl) (hf : X.fn x = true ∨ X.env.scope.names.lookup x = some .local := by first | exact .inl rfl | exact .inr rfl | assumption) : MG X z (.Name x pos) (gSet i) :=
  (pg_name hN hi hx hf).imp fun v σ H Q ⟨G, env, S, p, e, A, r, P⟩ => by
    subst e
    exact P _ G (Mon.refl G) (A.setVal r)
def gsNil : List PV → Cd Unit := fun ps => match ps with
  | [] => ret ()
  | _ => fun _ _ => .bad
def gsCons (g : PV → Cd Unit) (gs : List PV → Cd Unit) : List PV → Cd Unit := fun ps => match ps with
  | [] => fun _ _ => .bad
  | p :: r => bnd (g p) fun _ => gs r
theorem mgs_nil : MGs X z [] gsNil := pgs_nil.imp fun vs σ H Q ⟨G, env, S, ps, e, A, r, P⟩ => by
  subst e
  cases r with
  | nil => exact ⟨rfl, P σ G (Mon.refl G) A⟩
  | cons _ _ => exact P.elim
theorem mgs_cons {e : Expr} {es : List Expr} {g : PV → Cd Unit} {gs : List PV → Cd Unit} (h : MG X z e g) (hr : MGs X z es gs) (hs : (assignEach (e :: es) X.env).map (·.2) = assign e X.env :: (assignEach es X.env).map (·.2) := by rfl) : MGs X z (e :: es) (gsCons g gs) :=
  (pgs_cons h hr hs).imp fun vs σ H Q ⟨G, env, S, ps, e, A, r, P⟩ => by
    subst e
    cases r with
    | nil => exact P.elim
    | cons r0 rr => exact ⟨_, _, rfl, toG lwG A r0 P fun env1 S1 σ1 G1 m1 A1 P1 => ⟨G1, env1, S1, _, rfl, A1, rr.mon m1, P1⟩⟩
def gTupD (n : Nat) (gs : List PV → Cd Unit) : PV → Cd Unit := fun p => match p with
  | .tup ps => if ps.length = n then gs ps else fun _ _ => .bad
  | _ => fun _ _ => .bad
theorem mg_tup {es : List Expr} {k : Nat} {gs : List PV → Cd Unit} {n : Nat} (h : MGs X z es gs) (hK : z.K = X.K := by rfl) (hc : X.calm = true := by rfl) (hn : (assignEach es X.env).length = n := by rfl) (hst : (assignEach es X.env).findIdx? (·.1) = none := by rfl) : MG X z (.Tuple es k pos) (gTupD n gs) :=
  (pg_tup hc h hn hst).imp fun v σ H Q ⟨G, env, S, p, e, A, r, P⟩ => by
    subst e
    cases p with
    | tup ps =>
      obtain ⟨a, vs, rfl, q, rr⟩ := r.sqT
      unfold gTupD at P
      by_cases hl : ps.length = n
      · simp only [if_pos hl] at P
        exact ⟨a, vs, rfl, by rw [← hK]; exact q, by rw [← rr.length]; exact hl, G, env, S, ps, rfl, A, rr, P⟩
      · simp only [if_neg hl] at P
        exact P.elim
    | _ => exact P.elim
end

/-! ### statements -/
section
variable {X : Cx} {z : Zx} {pos pos' : Pos}
abbrev MS (X : Cx) (z : Zx) (st : Stmt) (d : Cd Flw) : Prop := PS X st (RS z d)
abbrev MSs (X : Cx) (z : Zx) (st : List Stmt) (d : Cd Flw) : Prop := PSs X st (RS z d)
def nxt : Cd Flw := ret .next
/-- d, then (if it goes on) r -/
def dSeq (d r : Cd Flw) : Cd Flw := bnd d fun f => match f with
  | .next => r
  | f => ret f
theorem mss_nil : MSs X z [] nxt := PSs.imp pss_nil fun D σ H ⟨G, env, S, e, A, P⟩ => by
  subst e
  exact P σ G (Mon.refl G) A
theorem mss_one {st : Stmt} {d : Cd Flw} (h : MS X z st d) : MSs X z [st] d := pss_one h
theorem toS {β : Type} {z : Zx} {F : Wd → Out β → Prop} {G : Wd} {env : Env} {S : Stt} {σ : St} (L : Lw z F) {d : Cd Flw} {k : Flw → Cd β} {D : Ends} (A : At z.K z.G0 G S env σ) (P : F G (bnd d k env S))
    (hn : ∀ env1 S1 σ1 G1, Mon G G1 → At z.K z.G0 G1 S1 env1 σ1 → F G1 (k .next env1 S1) → D.nx σ1 G1.H)
    (hb : ∀ env1 S1 σ1 G1, Mon G G1 → At z.K z.G0 G1 S1 env1 σ1 → F G1 (k .brk env1 S1) → D.bk σ1 G1.H)
    (hc : ∀ env1 S1 σ1 G1, Mon G G1 → At z.K z.G0 G1 S1 env1 σ1 → F G1 (k .cont env1 S1) → D.ct σ1 G1.H)
    (hr : ∀ p v env1 S1 σ1 G1, Mon G G1 → At z.K z.G0 G1 S1 env1 σ1 → Rep z.K G1 p v → F G1 (k (.ret p) env1 S1) → D.rt v G1.H) : RS z d D σ G.H := by
  refine ⟨G, env, S, rfl, A, ?_⟩
  unfold bnd at P
  cases e : d env S with
  | ok f env1 S1 =>
    rw [e] at P
    cases f with
    | next => exact fun σ1 G1 m a => hn env1 S1 σ1 G1 m a (L.later _ _ _ P m)
    | brk => exact fun σ1 G1 m a => hb env1 S1 σ1 G1 m a (L.later _ _ _ P m)
    | cont => exact fun σ1 G1 m a => hc env1 S1 σ1 G1 m a (L.later _ _ _ P m)
    | ret p => exact fun v σ1 G1 m a r => hr p v env1 S1 σ1 G1 m a r (L.later _ _ _ P m)
  | raise c w env1 S1 =>
    rw [e] at P
    exact L.rais _ _ _ _ _ P
  | bad =>
    rw [e] at P
    exact (L.bad _ P).elim
theorem mss_cons {st : Stmt} {rest : List Stmt} {d r : Cd Flw} (h : MS X z st d) (hr : MSs X z rest r) : MSs X z (st :: rest) (dSeq d r) :=
  PSs.imp (pss_cons h hr) fun D σ H ⟨G, env, S, e, A, P⟩ => by
    subst e
    exact toS lwS (D := { D with nx := RS z r D }) A P (fun env1 S1 σ1 G1 m A1 P1 => ⟨G1, env1, S1, rfl, A1, P1⟩) (fun env1 S1 σ1 G1 m A1 P1 => P1 σ1 G1 (Mon.refl _) A1) (fun env1 S1 σ1 G1 m A1 P1 => P1 σ1 G1 (Mon.refl _) A1)
      (fun p v env1 S1 σ1 G1 m A1 r1 P1 => P1 v σ1 G1 (Mon.refl _) A1 r1)
theorem ms_pass : MS X z (.Pass pos) nxt := PS.imp ps_pass fun D σ H ⟨G, env, S, e, A, P⟩ => by
  subst e
  exact P σ G (Mon.refl G) A
theorem ms_break : MS X z (.Break pos) (ret .brk) := PS.imp ps_break fun D σ H ⟨G, env, S, e, A, P⟩ => by
  subst e
  exact P σ G (Mon.refl G) A
theorem ms_cont : MS X z (.Continue pos) (ret .cont) := PS.imp ps_continue fun D σ H ⟨G, env, S, e, A, P⟩ => by
  subst e
  exact P σ G (Mon.refl G) A
variable {e : Expr} {d : Cd PV}
def dDrop (d : Cd PV) : Cd Flw := bnd d fun _ => nxt
theorem ms_expr (he : ME X z e d) (hs : swapsWith e none pos.line X.env = pure false := by rfl) : MS X z (.Expr e pos) (dDrop d) := PS.imp (ps_expr he hs) fun D σ H ⟨G, env, S, e, A, P⟩ => by
  subst e
  exact toE lwS A P fun p env1 S1 v G1 m1 A1 r1 P1 => P1 σ G1 (Mon.refl _) A1
def dRet (d : Cd PV) : Cd Flw := bnd d fun p => ret (.ret p)
theorem ms_ret (he : ME X z e d) : MS X z (.Return (some e) pos) (dRet d) := PS.imp (ps_ret he) fun D σ H ⟨G, env, S, e, A, P⟩ => by
  subst e
  exact toE lwS A P fun p env1 S1 v G1 m1 A1 r1 P1 => P1 v σ G1 (Mon.refl _) A1 r1
theorem ms_retN : MS X z (.Return none pos) (ret (.ret .non)) := PS.imp ps_retN fun D σ H ⟨G, env, S, e, A, P⟩ => by
  subst e
  exact P .non σ G (Mon.refl _) A .non
def dIf (t : Cd Bool) (a b : Cd Flw) : Cd Flw := bnd t fun k => if k = true then a else b
theorem ms_if {c : Expr} {a b : List Stmt} {t : Cd Bool} {da db : Cd Flw} (hc : MT X z c t) (ha : MSs X z a da) (hb : MSs X z b db) : MS X z (.If c a b pos) (dIf t da db) := PS.imp (ps_if hc ha hb) fun D σ H ⟨G, env, S, e, A, P⟩ => by
  subst e
  refine toT lwS A P fun k env1 S1 G1 m1 A1 P1 => ?_
  cases k with
  | true => exact ⟨G1, env1, S1, rfl, A1, P1⟩
  | false => exact ⟨G1, env1, S1, rfl, A1, P1⟩
/-- target = e -/
def dAsg (d : Cd PV) (g : PV → Cd Unit) : Cd Flw := bnd d fun p => bnd (g p) fun _ => nxt
theorem ms_asg {tg : Expr} {g : PV → Cd Unit} (he : ME X z e d) (hg : MG X z tg g) (hs : swapsWithSole [tg] e pos.line X.env = pure false := by rfl) (hw : swappedStores [tg] e X.env = pure none := by rfl)
    (h1 : (assignEach [tg] X.env).map (·.2) = [assign tg X.env] := by rfl) : MS X z (.Assign [tg] e pos) (dAsg d g) := PS.imp (ps_asg he hg hs hw h1) fun D σ H ⟨G, env, S, e, A, P⟩ => by
  subst e
  exact toE lwS A P fun p env1 S1 v G1 m1 A1 r1 P1 => toG lwS A1 r1 P1 fun env2 S2 σ2 G2 m2 A2 P2 => P2 σ2 G2 (Mon.refl _) A2
/-- name = e -/
def dSet (i : Nat) (d : Cd PV) : Cd Flw := bnd d fun p => fun e s => .ok .next (e.set i (.val p)) s
theorem ms_set (i : Nat) {x : Str} (hN : X.N.Nodup) (he : ME X z e d) (hi : X.N[i]? = some x := by rfl) (hx : Loc X.env.scope x := by first | exact Or.inl rfl | exact Or.inr rfl) (hs : swapsWith e (some (.Name x pos')) pos.line X.env = pure false := by rfl)
    (hf : X.fn x = true ∨ X.env.scope.names.lookup x = some .local := by first | exact .inl rfl | exact .inr rfl | assumption) : MS X z (.Assign [.Name x pos'] e pos) (dSet i d) := PS.imp (ps_set hN hi hx he hs hf) fun D σ H ⟨G, env, S, e, A, P⟩ => by
  subst e
  exact toE lwS A P fun p env1 S1 v G1 m1 A1 r1 P1 => P1 _ G1 (Mon.refl _) (A1.setVal r1)
/-- name = a new list that the name alone holds -/
def dOwn (i : Nat) (d : Cd (List PV)) : Cd Flw := bnd d fun xs => fun e s => .ok .next (e.set i (.own xs)) s
theorem ms_own (i : Nat) {x : Str} {d : Cd (List PV)} (hN : X.N.Nodup) (he : MF X z e d) (hi : X.N[i]? = some x := by rfl) (hx : Loc X.env.scope x := by first | exact Or.inl rfl | exact Or.inr rfl) (hs : swapsWith e (some (.Name x pos')) pos.line X.env = pure false := by rfl)
    (hf : X.fn x = true ∨ X.env.scope.names.lookup x = some .local := by first | exact .inl rfl | exact .inr rfl | assumption) : MS X z (.Assign [.Name x pos'] e pos) (dOwn i d) := PS.imp (ps_set hN hi hx he hs hf) fun D σ H ⟨G, env, S, e, A, P⟩ => by
  subst e
  exact toF lwS A P fun xs env1 S1 a vs G1 m1 A1 r1 al P1 => P1 _ G1 (Mon.refl _) (A1.setOwn r1 al)
/-- a, b = e1, e2 -/
def dPar (i j : Nat) (d : Cd (List PV)) : Cd Flw := bnd d fun ps => match ps with
  | [p, q] => fun e s => .ok .next ((e.set i (.val p)).set j (.val q)) s
  | _ => fun _ _ => .bad
theorem ms_par (i j : Nat) {x y : Str} {a b : Expr} {d : Cd (List PV)} {px py pt : Pos} {kt k2 pt2} (hN : X.N.Nodup) (ha : MA X z [a, b] d) (hij : i ≠ j := by decide) (hc : X.calm = true := by rfl) (hi : X.N[i]? = some x := by rfl) (hj : X.N[j]? = some y := by rfl)
    (hx : X.env.scope.names.lookup x = some .local := by rfl) (hy : X.env.scope.names.lookup y = some .local := by rfl)
    (hw : swappedStores [.Tuple [.Name x px, .Name y py] kt pt] (.Tuple [a, b] k2 pt2) X.env = pure (some [x, y]) := by rfl)
    (hs : swapsWithSole [.Tuple [.Name x px, .Name y py] kt pt] (.Tuple [a, b] k2 pt2) pos.line X.env = pure false := by rfl) :
    MS X z (.Assign [.Tuple [.Name x px, .Name y py] kt pt] (.Tuple [a, b] k2 pt2) pos) (dPar i j d) := PS.imp (ps_par hc hN hi hj hij hx hy ha hw hs) fun D σ H ⟨G, env, S, e, A, P⟩ => by
  subst e
  refine toA lwS A P fun ps env1 S1 vs G1 m1 A1 r1 P1 => ?_
  cases r1 with
  | nil => exact P1.elim
  | cons r0 rr =>
    cases rr with
    | nil => exact P1.elim
    | cons r2 rr =>
      cases rr with
      | cons _ _ => exact P1.elim
      | nil => exact ⟨_, _, rfl, P1 _ G1 (Mon.refl _) ((A1.setVal r0).setVal r2)⟩

/-! ### for -/
/-- J walks ps, as long as the frozen things stand -/
structure Enum (K : PySem.W.Frag) (J : It) (G : Wd) (ps : List PV) : Prop where
  stop : ∀ i G1, Mon G G1 → ps.length ≤ i → J.stop i G1.H
  go : ∀ (i : Nat) (p : PV) (G1 : Wd), Mon G G1 → Sure G1 → ps[i]? = some p → J.go i G1.H ∧ ∀ x H', J.yld i G1.H x H' → ∃ G2, G2.H = H' ∧ Ext G1 G2 ∧ Sure G2 ∧ Rep K G2 p x
def PostI (z : Zx) (G : Wd) (σ : St) (R : It → Hp → Prop) : Out (List PV) → Prop
  | .ok ps env S => ∀ (J : It) (G' : Wd), Mon G G' → At z.K z.G0 G' S env σ → Enum z.K J G' ps → R J G'.H
  | .raise c w env S => ∀ σ', PRaise z G c w env S σ'
  | .bad => False
theorem PostI.later {z : Zx} {G G1 : Wd} {σ : St} {R : It → Hp → Prop} {o : Out (List PV)} (h : PostI z G σ R o) (M : Mon G G1) : PostI z G1 σ R o := by
  cases o with
  | ok p env S => exact fun J G' m => h J G' (M.trans m)
  | raise c w env S => exact fun σ' => (h σ').later M
  | bad => exact h
theorem lwI {z : Zx} {σ : St} {R : It → Hp → Prop} : Lw z (fun G o => PostI z G σ R o) := ⟨fun _ _ _ h m => h.later m, fun _ _ _ _ _ h => h, fun _ h => h⟩
def RI (z : Zx) (d : Cd (List PV)) : TI := fun σ H R => ∃ G env S, G.H = H ∧ At z.K z.G0 G S env σ ∧ PostI z G σ R (d env S)
abbrev MI (X : Cx) (z : Zx) (tg e : Expr) (d : Cd (List PV)) : Prop := PI X tg e (RI z d)
theorem _root_.L2.PI.imp {tg e : Expr} {t t' : TI} (h : PI X tg e t) (i : ∀ σ H R, t' σ H R → t σ H R) : PI X tg e t' := ⟨fun pins s σ H R I q => h.run pins s σ H R I (i σ H R q)⟩
theorem _root_.L2.PI.or {tg e : Expr} {t t' : TI} (h : PI X tg e t) (h' : PI X tg e t') : PI X tg e (fun σ H R => t σ H R ∨ t' σ H R) := ⟨fun pins s σ H R I q => q.elim (h.run pins s σ H R I) (h'.run pins s σ H R I)⟩
theorem toI {β : Type} {z : Zx} {F : Wd → Out β → Prop} {G : Wd} {env : Env} {S : Stt} {σ : St} (L : Lw z F) {d : Cd (List PV)} {k : List PV → Cd β} {R : It → Hp → Prop} (A : At z.K z.G0 G S env σ) (P : F G (bnd d k env S))
    (h : ∀ ps env1 S1 J G1, Mon G G1 → At z.K z.G0 G1 S1 env1 σ → Enum z.K J G1 ps → F G1 (k ps env1 S1) → R J G1.H) : RI z d σ G.H R := by
  refine ⟨G, env, S, rfl, A, ?_⟩
  unfold bnd at P
  cases e : d env S with
  | ok ps env1 S1 =>
    rw [e] at P
    exact fun J G1 m a en => h ps env1 S1 J G1 m a en (L.later _ _ _ P m)
  | raise c w env1 S1 =>
    rw [e] at P
    exact L.rais _ _ _ _ _ P
  | bad =>
    rw [e] at P
    exact (L.bad _ P).elim
def dForL (g : PV → Cd Unit) (b : Cd Flw) : List PV → Cd Flw
  | [] => nxt
  | p :: ps => bnd (g p) fun _ => bnd b fun f => match f with
    | .next => dForL g b ps
    | .cont => dForL g b ps
    | .brk => nxt
    | .ret v => ret (.ret v)
def dFor (d : Cd (List PV)) (g : PV → Cd Unit) (b : Cd Flw) : Cd Flw := bnd d (dForL g b)
theorem for_go {J : It} {G0 : Wd} {ps : List PV} {g : PV → Cd Unit} {b : Cd Flw} {D : Ends} (en : Enum z.K J G0 ps) {σ : St} {env : Env} {S : Stt} (A : At z.K z.G0 G0 S env σ) (P : PostS z G0 D (dForL g b ps env S)) :
    ∃ W : Nat → Nat → St → Hp → Prop, (∃ m, W 0 m σ G0.H) ∧ ∀ i m σ H, W i m σ H →
      (J.stop i H ∧ D.nx σ H) ∨ (J.go i H ∧ ∃ N : St → Hp → Prop, (∀ σ' H', N σ' H' → ∃ m', m' < m ∧ W (i + 1) m' σ' H') ∧ ∀ x H', J.yld i H x H' → RG z g x σ H' fun σ2 H2 => RS z b { D with nx := N, ct := N, bk := D.nx } σ2 H2) := by
  refine ⟨fun i m σ H => m = ps.length - i ∧ i ≤ ps.length ∧ ∃ G1 env S, G1.H = H ∧ Mon G0 G1 ∧ At z.K z.G0 G1 S env σ ∧ PostS z G1 D (dForL g b (ps.drop i) env S), ⟨ps.length, by simp, Nat.zero_le _, G0, env, S, rfl, Mon.refl _, A, by simpa using P⟩, ?_⟩
  rintro i m σ H ⟨rfl, hi, G1, env, S, rfl, M, A, P⟩
  by_cases hl : i < ps.length
  · have e : ps.drop i = ps[i] :: ps.drop (i + 1) := List.drop_eq_getElem_cons hl
    rw [e] at P
    obtain ⟨q1, q2⟩ := en.go i ps[i] G1 M A.sure (by simp [hl])
    refine .inr ⟨q1, fun σ' H' => ∃ G1 env S, G1.H = H' ∧ Mon G0 G1 ∧ At z.K z.G0 G1 S env σ' ∧ PostS z G1 D (dForL g b (ps.drop (i + 1)) env S), fun σ' H' h => ⟨ps.length - (i + 1), by omega, rfl, hl, h⟩, fun x H' y => ?_⟩
    obtain ⟨G2, rfl, x2, s2, r2⟩ := q2 x H' y
    have m2 := x2.mon A.sure
    refine toG lwS (A.ext x2 s2) r2 (P.later m2) fun env3 S3 σ3 G3 m3 A3 P3 => ?_
    refine toS lwS A3 P3 (fun env4 S4 σ4 G4 m4 A4 P4 => ?_) (fun env4 S4 σ4 G4 m4 A4 P4 => P4 σ4 G4 (Mon.refl _) A4) (fun env4 S4 σ4 G4 m4 A4 P4 => ?_) fun p v env4 S4 σ4 G4 m4 A4 r4 P4 => P4 v σ4 G4 (Mon.refl _) A4 r4
    · exact ⟨G4, env4, S4, rfl, ((M.trans m2).trans m3).trans m4, A4, P4⟩
    · exact ⟨G4, env4, S4, rfl, ((M.trans m2).trans m3).trans m4, A4, P4⟩
  · have e : ps.drop i = [] := List.drop_eq_nil_of_le (by omega)
    rw [e] at P
    exact .inl ⟨en.stop i G1 M (by omega), P σ G1 (Mon.refl _) A⟩
theorem ms_for {tg iter : Expr} {body : List Stmt} {d : Cd (List PV)} {g : PV → Cd Unit} {b : Cd Flw} (hp : PassesOwn (model X.prog X.w) X.A X.env X.xe) (hi : MI X z tg iter d) (hg : MG X z tg g) (hb : MSs X z body b) (hc : X.calm = true := by rfl)
    (hs : ∀ x, foldedSetIterable iter X.env x = pure x := by intro _; rfl) : MS X z (.For tg iter body [] pos) (dFor d g b) := PS.imp (ps_for hp hc hi hg hb hs) fun D σ H ⟨G, env, S, e, A, P⟩ => by
  subst e
  exact toI lwS A P fun ps env1 S1 J G1 m1 A1 en P1 => for_go en A1 P1

/-! ### while -/
def iterW (c : Cd Bool) (b : Cd Flw) : Nat → Cd Flw
  | 0 => fun _ _ => .bad
  | n + 1 => bnd c fun k => if k = true then bnd b fun f => match f with
    | .next => iterW c b n
    | .cont => iterW c b n
    | .brk => nxt
    | .ret v => ret (.ret v)
    else nxt
theorem iterW_succ (c : Cd Bool) (b : Cd Flw) : ∀ (n : Nat) (e : Env) (s : Stt), iterW c b n e s ≠ .bad → iterW c b (n + 1) e s = iterW c b n e s
  | 0, _, _, h => absurd rfl h
  | n + 1, e, s, h => by
    have ih := iterW_succ c b n
    generalize hm : n + 1 = m at ih
    unfold iterW
    subst hm
    show bnd c _ e s = bnd c _ e s
    unfold iterW at h
    unfold bnd at h ⊢
    cases hc : c e s with
    | raise => rfl
    | bad => rfl
    | ok k e1 s1 =>
      rw [hc] at h
      simp only [Out.bind] at h ⊢
      cases k with
      | false => rfl
      | true =>
        simp only [if_true] at h ⊢
        cases hb : b e1 s1 with
        | raise => rfl
        | bad => rfl
        | ok f e2 s2 =>
          rw [hb] at h
          cases f with
          | next => exact ih e2 s2 h
          | cont => exact ih e2 s2 h
          | brk => rfl
          | ret v => rfl
theorem iterW_le (c : Cd Bool) (b : Cd Flw) {n : Nat} {e : Env} {s : Stt} (h : iterW c b n e s ≠ .bad) : ∀ {m : Nat}, n ≤ m → iterW c b m e s = iterW c b n e s := by
  intro m hm
  induction hm with
  | refl => rfl
  | step _ ih => rw [iterW_succ _ _ _ _ _ (by rw [ih]; exact h), ih]
open Classical in
noncomputable def dWhile (c : Cd Bool) (b : Cd Flw) : Cd Flw := fun e s => if h : ∃ n, iterW c b n e s ≠ .bad then iterW c b (Classical.choose h) e s else .bad
theorem dWhile_of {c : Cd Bool} {b : Cd Flw} {n : Nat} {e : Env} {s : Stt} {r : Out Flw} (h : iterW c b n e s = r) (hr : r ≠ .bad) : dWhile c b e s = r := by
  have hx : ∃ n, iterW c b n e s ≠ .bad := ⟨n, by rw [h]; exact hr⟩
  unfold dWhile
  rw [dif_pos hx]
  have h1 := Classical.choose_spec hx
  rcases Nat.le_total n (Classical.choose hx) with q | q
  · rw [iterW_le c b (by rw [h]; exact hr) q, h]
  · rw [← iterW_le c b h1 q, h]
theorem dWhile_some {c : Cd Bool} {b : Cd Flw} {e : Env} {s : Stt} : dWhile c b e s = .bad ∨ ∃ n, dWhile c b e s = iterW c b n e s := by
  unfold dWhile
  by_cases h : ∃ n, iterW c b n e s ≠ .bad
  · rw [dif_pos h]
    exact .inr ⟨_, rfl⟩
  · rw [dif_neg h]
    exact .inl rfl
theorem ms_while {c : Expr} {body : List Stmt} {t : Cd Bool} {b : Cd Flw} (hp : PassesOwn (model X.prog X.w) X.A X.env X.xe) (hc : MT X z c t) (hb : MSs X z body b) : MS X z (.While c body [] pos) (dWhile t b) := PS.imp (ps_while hp hc hb) fun D σ H ⟨G, env, S, e, A, P⟩ => by
  subst e
  rcases dWhile_some (c := t) (b := b) (e := env) (s := S) with e | ⟨n, e⟩
  · rw [e] at P; exact P.elim
  · rw [e] at P
    refine ⟨fun m σ H => ∃ G env S, G.H = H ∧ At z.K z.G0 G S env σ ∧ PostS z G D (iterW t b m env S), ⟨n, G, env, S, rfl, A, P⟩, ?_⟩
    rintro m σ H ⟨G, env, S, rfl, A, P⟩
    cases m with
    | zero => exact P.elim
    | succ m =>
      unfold iterW at P
      refine toT lwS A P fun k env1 S1 G1 m1 A1 P1 => ?_
      cases k with
      | false => exact P1 σ G1 (Mon.refl _) A1
      | true =>
        rw [if_pos rfl] at P1 ⊢
        refine ⟨fun σ H => ∃ G env S, G.H = H ∧ At z.K z.G0 G S env σ ∧ PostS z G D (iterW t b m env S), fun σ' H' h => ⟨m, Nat.lt_succ_self _, h⟩, ?_⟩
        exact toS lwS A1 P1 (fun env4 S4 σ4 G4 m4 A4 P4 => ⟨G4, env4, S4, rfl, A4, P4⟩) (fun env4 S4 σ4 G4 m4 A4 P4 => P4 σ4 G4 (Mon.refl _) A4) (fun env4 S4 σ4 G4 m4 A4 P4 => ⟨G4, env4, S4, rfl, A4, P4⟩)
          fun p v env4 S4 σ4 G4 m4 A4 r4 P4 => P4 v σ4 G4 (Mon.refl _) A4 r4
end
end FS

set_option Elab.async false
set_option linter.all false
set_option maxRecDepth 100000
/-! FsDef: defs, calls, raise. -/
namespace FS
open PySem PySem.Spec L2

inductive Res where
  | ok (p : PV) (s : Stt)
  | raise (c : Str) (w : PV) (s : Stt)
  | bad
def PostD (K : PySem.W.Frag) (mg : Str → Option Value) (G : Wd) (Q : VK) (E : XK) : Res → Prop
  | .ok p S => ∀ (v : V) (G' : Wd), Ent G G' → Mon G G' → RepS K G' S → Sure G' → Rep K G' p v → Q v G'.H
  | .raise c w S => ∀ (cls : Value) (d : Addr) (v : V) (G' : Wd), Ent G G' → Mon G G' → RepS K G' S → Sure G' → mg c = some cls → G.H d = none → G'.H d = some (.xd [(("what" : Str), v)]) → Rep K G' w v → E cls (some d) G'.H
  | .bad => False
/-- the promise of a def: it does what den says -/
def spD (K : PySem.W.Frag) (mg : Str → Option Value) (n : Nat) (den : List PV → Stt → Res) : Sp := fun vs H Q E =>
  ∃ G ps S, G.H = H ∧ RepL K G ps vs ∧ RepS K G S ∧ Sure G ∧ vs.length = n ∧ PostD K mg G Q E (den ps S)
/-- a body's value -/
def fin : Out Flw → Res
  | .ok .next _ s => .ok .non s
  | .ok (.ret p) _ s => .ok p s
  | .raise c w _ s => .raise c w s
  | _ => .bad
/-- a def of n names, k of them parameters -/
def runD (n k : Nat) (d : Cd Flw) (ps : List PV) (S : Stt) : Res := if ps.length = k then fin (d (ps.map Slot.val ++ List.replicate (n - k) Slot.none) S) else .bad

section
variable {K : PySem.W.Frag}
theorem start_rep {G : Wd} {S : Stt} {ps : List PV} {vs : List V} {N : List Str} (r : RepL K G ps vs) (s : RepS K G S) (su : Sure G) :
    At K G G S (ps.map Slot.val ++ List.replicate (N.length - ps.length) Slot.none) (L2.start N vs) := by
  have hl := r.length
  have no : ∀ (i : Nat) (xs : List PV), (ps.map Slot.val ++ List.replicate (N.length - ps.length) Slot.none)[i]? ≠ some (.own xs) := fun i xs e => by
    by_cases hi : i < ps.length
    · rw [List.getElem?_append_left (by simpa using hi), List.getElem?_map] at e
      cases q : ps[i]? with
      | none => rw [q] at e; cases e
      | some p => rw [q] at e; cases e
    · rw [List.getElem?_append_right (by simpa using hi)] at e
      have := List.mem_of_getElem? e
      have := List.eq_of_mem_replicate this
      cases this
  have no2 : ∀ (i : Nat) (a d : Addr) (w : PV), (ps.map Slot.val ++ List.replicate (N.length - ps.length) Slot.none)[i]? ≠ some (.exc a d w) := fun i a d w e => by
    by_cases hi : i < ps.length
    · rw [List.getElem?_append_left (by simpa using hi), List.getElem?_map] at e
      cases q : ps[i]? with
      | none => rw [q] at e; cases e
      | some p => rw [q] at e; cases e
    · rw [List.getElem?_append_right (by simpa using hi)] at e
      have := List.mem_of_getElem? e
      have := List.eq_of_mem_replicate this
      cases this
  refine ⟨s, ⟨?_, fun i p e => ?_, fun i xs e => absurd e (no i xs), fun i a d w e => absurd e (no2 i a d w), fun i j a h => absurd h.choose_spec (no i _)⟩, .refl G, fun i a h => absurd h.choose_spec (no i _), su⟩
  · unfold L2.start
    simp [hl]
  · by_cases hi : i < ps.length
    · rw [List.getElem?_append_left (by simpa using hi), List.getElem?_map] at e
      cases q : ps[i]? with
      | none => rw [q] at e; cases e
      | some p' =>
        rw [q] at e
        have e' := Option.some.inj e
        cases e'
        obtain ⟨v, e1, r1⟩ := r.get q
        refine ⟨v, ?_, r1⟩
        unfold L2.start
        rw [List.getElem?_append_left (by simpa [← hl] using hi), List.getElem?_map, e1]
        rfl
    · rw [List.getElem?_append_right (by simpa using hi)] at e
      have := List.mem_of_getElem? e
      have := List.eq_of_mem_replicate this
      cases this
end

section
variable {P : Program} {w : World} {K : PySem.W.Frag} {mg : Str → Option Value} {base : Heap}
/-- the surroundings of a def's body -/
abbrev zOf (K : PySem.W.Frag) (mg : Str → Option Value) (G : Wd) (E : XK) : Zx := ⟨K, mg, G, fun cls d _ H => E cls d H⟩
/-- THE RULE for a def -/
theorem def_ok {x qual : Str} {st : Stmt} {f : Addr} {fd : FuncData} {N ps : List Str} {k : Nat} {d : Cd Flw} (F : Fun K x qual st f fd) (S : FnScope N ps (defScope st))
    (hbody : ∀ (cdv : Value) (A : Around) (outer : List PySem.Env) (s : Shared) (H : Hp) (E : XK) (G : Wd), Room k (A.deeper (PyProof.Rows.envOfC qual (defScope st) s.heap.objs.size f cdv)) →
      MSs (cxOf (L2.CX P w) P w K mg base N qual (defScope st) f cdv A outer s H E) (zOf K mg G E) (defBody st) d) :
    FnOk P w K mg base (L2.CX P w) (k + 1) f fd ps (spD K mg ps.length (runD N.length ps.length d)) := by
  refine F.okX S (fun vs H Q E h => ?_) fun cdv A outer s H vs Q E hr h => ?_
  · obtain ⟨_, _, _, _, _, _, _, e, _⟩ := h
    exact e
  · obtain ⟨G, qs, S', e, r, rs, su, hl, hp⟩ := h
    subst e
    refine ⟨_, hbody cdv A outer s _ E G hr, G, qs.map Slot.val ++ List.replicate (N.length - qs.length) Slot.none, S', rfl, start_rep r rs su, ?_⟩
    have hq : qs.length = ps.length := by rw [r.length, hl]
    unfold runD at hp
    rw [if_pos hq, ← hq] at hp
    cases e : d (qs.map Slot.val ++ List.replicate (N.length - qs.length) Slot.none) S' with
    | bad => rw [e] at hp; exact hp.elim
    | raise c w' e1 s1 =>
      rw [e] at hp
      exact fun σ' G' cls dd v m A1 h1 h0 h2 h3 => hp cls dd v G' A1.ent m A1.st A1.sure h1 h0 h2 h3
    | ok f e1 s1 =>
      rw [e] at hp
      cases f with
      | next => exact fun σ' G' m A1 => hp .non G' A1.ent m A1.st A1.sure .non
      | ret p => exact fun v σ' G' m A1 r1 => hp v G' A1.ent m A1.st A1.sure r1
      | brk => exact hp.elim
      | cont => exact hp.elim
/-- a def of the module, by its name -/
structure Df (P : Program) (w : World) (K : PySem.W.Frag) (mg : Str → Option Value) (base : Heap) (k : Nat) (x : Str) (n : Nat) (den : List PV → Stt → Res) : Prop where
  ex : ∃ (f : Addr) (fd : FuncData) (ps : List Str), FnOk P w K mg base (L2.CX P w) k f fd ps (spD K mg n den) ∧ mg x = some (.ref f) ∧ PySem.W.keepIn K (.ref f) = true ∧ Binds K fd ps []
end

/-! ### calls -/
section
variable {X : Cx} {z : Zx} {pos p : Pos}
def dCall (n : Nat) (den : List PV → Stt → Res) (da : Cd (List PV)) : Cd PV := bnd da fun ps => if ps.length = n then fun e s => match den ps s with
  | .ok p s' => .ok p e s'
  | .raise c w s' => .raise c w e s'
  | .bad => .bad
  else fun _ _ => .bad
theorem me_call {k j n : Nat} {x : Str} {den : List PV → Stt → Res} {e : Expr} {es : List Expr} {da : Cd (List PV)} (D : Df X.prog X.w X.K X.mg X.base k x n den) (hr : Room j X.A) (tk : Takes X z.W) (ha : MA X z (e :: es) da) (hkj : k ≤ j := by decide) (hK : z.K = X.K := by rfl) (hmg : z.mg = X.mg := by rfl) (hg : Gl X x := by rfl)
    (hdb : (x == ("__debug__" : Str)) = false := by decide) (he : starEach (e :: es) X.env = (false, eval e X.env) :: starEach es X.env := by rfl) (hpl : (backTo pos (starEach es X.env)).any (·.1) = false := by rfl) :
    ME X z (.Call (.Name x p) (e :: es) [] pos) (dCall n den da) := by
  obtain ⟨f, fd, ps, F, hm, hk, hb⟩ := D.ex
  refine (pe_callSD F (hr.mono hkj) hg hm hk hb .nil (passAt tk) ha hdb he hpl).imp fun σ H Q ⟨G, env, S, e, A, P⟩ => ?_
  subst e
  refine toA lwE A P fun qs env1 S1 vs G1 m1 A1 r1 P1 => ?_
  by_cases hl : qs.length = n
  · rw [if_pos hl] at P1
    rw [List.append_nil]
    rw [← hK, ← hmg]
    refine ⟨G1, qs, S1, rfl, r1, A1.st, A1.sure, by rw [← r1.length]; exact hl, ?_⟩
    cases e : den qs S1 with
    | bad => simp only [e] at P1; exact P1.elim
    | ok p S2 =>
      simp only [e] at P1
      exact fun v G' en m s su r => P1 v G' m (A1.call en m s su) r
    | raise c w S2 =>
      simp only [e] at P1
      exact fun cls d v G' en m s su h1 h0 h2 r => P1 σ G' cls d v m (A1.call en m s su) h1 (A1.ent.there d h0) h2 r
  · rw [if_neg hl] at P1
    exact P1.elim
end

/-! ### raise -/
/-- __init__ of the base class of the errors: self.what = what -/
def spInit (K : PySem.W.Frag) : Sp := fun vs H Q _ => ∃ (a C : Addr) (v : V), vs = [.ref a, v] ∧ H a = some (exo a C none) ∧ OexC K C ∧ PySem.W.findIn K (.ref C) "what" = some none ∧
  ∀ dx, H dx = none → dx ≠ a → Q .non (upd (upd H dx (exd dx [(("what" : Str), v)])) a (exo a C (some dx)))
/-- the text of __init__ -/
def initArgs (p1 p2 : Pos) : Arguments := { posonlyargs := [], args := [{ arg := "self", annotation := none, pos := p1 }, { arg := "what", annotation := none, pos := p2 }], vararg := none, kwonlyargs := [], kw_defaults := [], kwarg := none, defaults := [] }
section
variable {P : Program} {w : World} {K : PySem.W.Frag} {mg : Str → Option Value} {base : Heap}
theorem init_ok {qual : Str} {st : Stmt} {f : Addr} {fd : FuncData} {p1 p2 p3 p4 : Pos} (F : Fun K "__init__" qual st f fd) (S : FnScope ["self", "what"] ["self", "what"] (defScope st)) (hb : defBody st = [.Assign [.Attribute (.Name "self" p1) "what" p2] (.Name "what" p3) p4])
    (hs : (defScope st).names.lookup ("self" : Str) = some .local) (hw : (defScope st).names.lookup ("what" : Str) = some .local) : FnOk P w K mg base CX0 1 f fd ["self", "what"] (spInit K) := by
  refine F.ok S (fun vs H Q E h => ?_) fun cdv A outer s H vs Q E hr h => ?_
  · obtain ⟨a, C, v, rfl, _⟩ := h
    rfl
  · obtain ⟨a, C, v, rfl, ha, T, hn, k⟩ := h
    rw [hb]
    refine ⟨_, pss_one (ps_ost (pe_var (i := 0) rfl (.inl hs)) (pe_var (i := 1) rfl (.inl hw))), ?_⟩
    exact ⟨v, rfl, .ref a, rfl, a, C, rfl, T, hn, .inl ⟨ha, fun dx h1 h2 => k dx h1 h2⟩⟩
end
/-- what the written part says of an error's class -/
structure ErC (P : Program) (w : World) (K : PySem.W.Frag) (mg : Str → Option Value) (base : Heap) (c : Str) : Prop where
  ex : ∃ (C fI : Addr) (fd : FuncData) (ps : List Str), mg c = some (.ref C) ∧ OexC K C ∧ PySem.W.findIn K (.ref C) "__init__" = some (some (.ref fI)) ∧ PySem.W.typeIn K (.ref fI) = some (.type "function") ∧
    PySem.W.findIn K (.ref C) "what" = some none ∧ FnOk P w K mg base CX0 1 fI fd ps (spInit K) ∧ Binds K fd ps []
section
variable {X : Cx} {z : Zx} {pos p pos2 : Pos}
def dRaise (c : Str) (d : Cd PV) : Cd Flw := bnd d fun p => fun e s => .raise c p e s
theorem ms_raise {j : Nat} {c : Str} {e : Expr} {d : Cd PV} (T : ErC X.prog X.w X.K X.mg X.base c) (hr : Room j X.A) (tk : Takes X z.W) (he : ME X z e d) (hkj : 2 ≤ j := by decide) (hmg : z.mg = X.mg := by rfl) (hc : X.calm = true := by rfl) (hg : Gl X c := by rfl)
    (hdb : (c == ("__debug__" : Str)) = false := by decide) (hs : starEach [e] X.env = (false, eval e X.env) :: starEach [] X.env := by rfl) (hpl : (backTo pos (starEach [] X.env)).any (·.1) = false := by rfl) :
    MS X z (.Raise (some (.Call (.Name c p) [e] [] pos)) none pos2) (dRaise c d) := by
  obtain ⟨C, fI, fd, ps, gC, T, iC, tI, nw, F, b⟩ := T.ex
  refine PS.imp (ps_raise hc tk (pmk_oex T iC tI F (hr.mono hkj) b .nil pass0 hg gC (pa_cons he pa_nil hs) hdb hs hpl)) fun D σ H ⟨G, env, S, e, A, P⟩ => ?_
  subst e
  refine toE lwS A P fun p env1 S1 v G1 m1 A1 r1 P1 => ?_
  refine ⟨by show 1 ≤ 1000; decide, fun a ha => ⟨a, C, v, rfl, upd_same, T, nw, fun dx hd hne => ?_⟩⟩
  have hd1 : G1.H dx = none := by rw [upd_ne hne] at hd; exact hd
  refine ⟨rfl, dx, [(("what" : Str), v)], upd_same, ?_, hd1, ?_⟩
  · rw [upd_ne hne]
    exact upd_same
  · have eq : upd (del (upd (upd (upd G1.H a (exo a C none)) dx (exd dx [(("what" : Str), v)])) a (exo a C (some dx))) a) dx (.xd [(("what" : Str), v)]) = upd G1.H dx (.xd [(("what" : Str), v)]) := by
      funext b
      by_cases h1 : b = dx
      · rw [h1, upd_same, upd_same]
      · rw [upd_ne h1, upd_ne h1]
        by_cases h2 : b = a
        · rw [h2, del_same, ha]
        · rw [del_ne h2, upd_ne h2, upd_ne h1, upd_ne h2]
    rw [eq]
    have M : Mon G1 (G1.fresh dx (.xd [(("what" : Str), v)])) := (Ext.fresh hd1).mon A1.sure
    exact P1 σ (G1.fresh dx (.xd [(("what" : Str), v)])) (.ref C) dx v M (A1.fresh hd1) (by rw [hmg]; exact gC) (A1.ent.there dx hd1) upd_same (r1.mon M)
end
end FS

set_option Elab.async false
set_option linter.all false
set_option maxRecDepth 100000
/-! FsOps: operators, comparisons, subscripts, slices, built-ins, walks. -/
namespace FS
open PySem PySem.Spec L2

/-! ### data -/
mutual
def PV.toD : PV → PyData
  | .non => .none
  | .bl b => .bool b
  | .int i => .int i
  | .str x => .str x
  | .tup xs => .tuple (toDs xs)
  | .lst xs => .list (toDs xs)
  | .scr ns => .list (ns.map PyData.int)
  | .ref _ => .none
  | .raw _ => .none
def toDs : List PV → List PyData
  | [] => []
  | x :: xs => x.toD :: toDs xs
end
/-- plain data, of a bounded depth -/
def okd : Nat → PV → Bool
  | _, .non => true
  | _, .bl _ => true
  | _, .int _ => true
  | _, .str x => PyData.strOk x
  | k + 1, .tup xs => xs.all (okd k)
  | k + 1, .lst xs => xs.all (okd k)
  | _ + 1, .scr _ => true
  | _, _ => false
theorem ints_lay : ∀ ns : List Int, PyData.canLayAll0 (ns.map PyData.int) = true ∧ PyData.depthAll (ns.map PyData.int) = 0
  | [] => ⟨rfl, rfl⟩
  | n :: ns => by
    obtain ⟨h1, h2⟩ := ints_lay ns
    constructor
    · simp [PyData.canLayAll0, PyData.canLay0, h1]
    · simp [PyData.depthAll, PyData.depth, h2]
theorem toDs_lay {k : Nat} (ih : ∀ p, okd k p = true → p.toD.canLay0 = true ∧ p.toD.depth ≤ k) : ∀ xs : List PV, xs.all (okd k) = true → PyData.canLayAll0 (toDs xs) = true ∧ PyData.depthAll (toDs xs) ≤ k
  | [], _ => ⟨rfl, Nat.zero_le _⟩
  | x :: xs, h => by
    rw [List.all_cons, Bool.and_eq_true] at h
    obtain ⟨h1, h2⟩ := ih x h.1
    obtain ⟨h3, h4⟩ := toDs_lay ih xs h.2
    constructor
    · simp [toDs, PyData.canLayAll0, h1, h3]
    · simp only [toDs, PyData.depthAll]
      omega
theorem okd_lay : ∀ (k : Nat) (p : PV), okd k p = true → p.toD.canLay0 = true ∧ p.toD.depth ≤ k := by
  intro k
  induction k with
  | zero =>
    intro p h
    cases p <;> first | exact ⟨rfl, Nat.zero_le _⟩ | exact ⟨h, Nat.zero_le _⟩ | (simp [okd] at h)
  | succ k ih =>
    intro p h
    cases p with
    | non => exact ⟨rfl, Nat.zero_le _⟩
    | bl b => exact ⟨rfl, Nat.zero_le _⟩
    | int i => exact ⟨rfl, Nat.zero_le _⟩
    | str x => exact ⟨h, Nat.zero_le _⟩
    | tup xs =>
      obtain ⟨h1, h2⟩ := toDs_lay ih xs h
      exact ⟨by simpa [PV.toD, PyData.canLay0] using h1, by simp only [PV.toD, PyData.depth]; omega⟩
    | lst xs =>
      obtain ⟨h1, h2⟩ := toDs_lay ih xs h
      exact ⟨by simpa [PV.toD, PyData.canLay0] using h1, by simp only [PV.toD, PyData.depth]; omega⟩
    | scr ns =>
      obtain ⟨h1, h2⟩ := ints_lay ns
      exact ⟨by simpa [PV.toD, PyData.canLay0] using h1, by simp only [PV.toD, PyData.depth]; omega⟩
    | ref n => simp [okd] at h
    | raw v => simp [okd] at h
theorem okd_shaped {p : PV} (h : okd 60 p = true) : SeqAt.shaped p.toD = true := by
  obtain ⟨h1, h2⟩ := okd_lay 60 p h
  unfold SeqAt.shaped
  rw [h1, Bool.true_and]
  exact decide_eq_true (by omega)
section
variable {K : PySem.W.Frag} {G : Wd}
theorem dpAll_ints : ∀ ns : List Int, DpAll K G.H (ns.map V.int) (ns.map PyData.int)
  | [] => .nil
  | n :: ns => .cons (.int n) (dpAll_ints ns)
theorem reps_dp {k : Nat} (ih : ∀ p v, okd k p = true → Rep K G p v → Dp K G.H v p.toD) : ∀ (xs : List PV) (vs : List V), xs.all (okd k) = true → RepL K G xs vs → DpAll K G.H vs (toDs xs)
  | [], _, _, .nil => .nil
  | x :: xs, _, h, .cons r rr => by
    rw [List.all_cons, Bool.and_eq_true] at h
    exact .cons (ih x _ h.1 r) (reps_dp ih xs _ h.2 rr)
theorem rep_dp : ∀ (k : Nat) (p : PV) (v : V), okd k p = true → Rep K G p v → Dp K G.H v p.toD := by
  intro k
  induction k with
  | zero =>
    intro p v h r
    cases r with
    | non => exact .non
    | bl b => exact .bl b
    | int i => exact .int i
    | str x => exact .str x
    | _ => simp [okd] at h
  | succ k ih =>
    intro p v h r
    cases p with
    | non => cases r; exact .non
    | bl b => cases r; exact .bl b
    | int i => cases r; exact .int i
    | str x => cases r; exact .str x
    | tup xs =>
      obtain ⟨a, vs, rfl, q, rr⟩ := r.sqT
      exact .tup q (reps_dp ih xs vs h rr)
    | lst xs =>
      obtain ⟨a, vs, rfl, q, rr⟩ := r.sqL
      exact .lst (SqL.of q) (reps_dp ih xs vs h rr)
    | scr ns =>
      obtain ⟨a, rfl, q⟩ := r.sqS
      exact .lst q (dpAll_ints ns)
    | ref n => simp [okd] at h
    | raw v => simp [okd] at h
/-- a shared list's content -/
def res (S : Stt) : PV → PV
  | .ref n => match S[n]? with
    | some (.lst xs) => .lst xs
    | none => .non
  | p => p
theorem res_dp {S : Stt} {p : PV} {v : V} (s : RepS K G S) (r : Rep K G p v) (h : okd 60 (res S p) = true) (hn : ∀ n, p = .ref n → S[n]? ≠ none) : Dp K G.H v (res S p).toD := by
  cases p with
  | ref n =>
    unfold res at h ⊢
    cases e : S[n]? with
    | none => exact absurd e (hn n rfl)
    | some o =>
      cases o with
      | lst xs =>
        simp only [e] at h ⊢
        obtain ⟨a, vs, rfl, _, q, rr⟩ := r.sqR s e
        exact .lst (SqL.of q) (reps_dp (rep_dp 59) xs vs h rr)
  | _ => exact rep_dp 60 _ _ h r
end
/-- == of data -/
def eqv (p q : PV) : Bool := PyData.eqv p.toD q.toD
def seen (S : Stt) : PV → Bool
  | .ref n => (S[n]?).isSome
  | _ => true
def pEq (S : Stt) (p q : PV) : Option PV := if (okd 60 (res S p) && okd 60 (res S q) && seen S p && seen S q) = true then some (.bl (eqv (res S p) (res S q))) else none
def pNe (S : Stt) (p q : PV) : Option PV := if (okd 60 (res S p) && okd 60 (res S q) && seen S p && seen S q) = true then some (.bl (!eqv (res S p) (res S q))) else none
theorem seen_ne {S : Stt} {p : PV} (h : seen S p = true) : ∀ n, p = .ref n → S[n]? ≠ none := fun n e z => by
  subst e
  have q : (S[n]?).isSome = true := h
  rw [z] at q
  cases q
theorem sure_frozen {G : Wd} {a : Addr} {o : HO} (su : Sure G) (hn : G.H a = none) : Sure (G.frozen a o) := (Ext.frozen hn).sure su fun b hb => hb.elim .inl fun e => .inr ⟨o, by subst e; exact upd_same⟩
section
variable {X : Cx} {z : Zx}
theorem op_pEq {j : Nat} (hr : Room j X.A) (hK : z.K = X.K := by rfl) : OpD X z (compareOp .Eq) pEq := by
  refine ⟨_, op_eqD hr.units, fun G S p q w x y Q e s su rp rq h => ?_⟩
  unfold pEq at e
  split at e
  · rename_i hc
    simp only [Bool.and_eq_true] at hc
    obtain ⟨⟨⟨h1, h2⟩, h3⟩, h4⟩ := hc
    cases e
    rw [hK] at s rp rq
    exact ⟨_, _, res_dp s rp h1 (seen_ne h3), res_dp s rq h2 (seen_ne h4), okd_shaped h1, okd_shaped h2, h _ G (.refl G) su (.bl _)⟩
  · cases e
theorem op_pNe {j : Nat} (hr : Room j X.A) (hK : z.K = X.K := by rfl) : OpD X z (compareOp .NotEq) pNe := by
  refine ⟨_, op_neD hr.units, fun G S p q w x y Q e s su rp rq h => ?_⟩
  unfold pNe at e
  split at e
  · rename_i hc
    simp only [Bool.and_eq_true] at hc
    obtain ⟨⟨⟨h1, h2⟩, h3⟩, h4⟩ := hc
    cases e
    rw [hK] at s rp rq
    exact ⟨_, _, res_dp s rp h1 (seen_ne h3), res_dp s rq h2 (seen_ne h4), okd_shaped h1, okd_shaped h2, h _ G (.refl G) su (.bl _)⟩
  · cases e
/-- ints by ints -/
def iI (C : Int → Int → Bool) (g : Int → Int → PV) : Stt → PV → PV → Option PV := fun _ p q => match p, q with
  | .int i, .int j => if C i j = true then some (g i j) else none
  | _, _ => none
theorem op_iI {g : Value → Value → Sem Value} {C : Int → Int → Bool} {C' : Int → Int → Prop} {k : Int → Int → Int} (o : OpR X g (rI C' fun i j => .int (k i j))) (hC : ∀ i j, C i j = true → C' i j) : OpD X z g (iI C fun i j => .int (k i j)) := by
  refine ⟨_, o, fun G S p q w x y Q e s su rp rq h => ?_⟩
  cases p with
  | int i =>
    cases q with
    | int j =>
      have e' : (if C i j = true then some (PV.int (k i j)) else none) = some w := e
      by_cases hc : C i j = true
      · rw [if_pos hc] at e'
        cases e'
        cases rp
        cases rq
        exact ⟨i, j, rfl, rfl, hC _ _ hc, h _ G (.refl G) su (.int _)⟩
      · rw [if_neg hc] at e'
        cases e'
    | _ => cases e
  | _ => cases e
theorem op_iB {g : Value → Value → Sem Value} {k : Int → Int → Bool} (o : OpR X g (rI0 fun i j => .bl (k i j))) : OpD X z g (iI (fun _ _ => true) fun i j => .bl (k i j)) := by
  refine ⟨_, o, fun G S p q w x y Q e s su rp rq h => ?_⟩
  cases p with
  | int i =>
    cases q with
    | int j =>
      cases (show some (PV.bl (k i j)) = some w from e)
      cases rp
      cases rq
      exact ⟨i, j, rfl, rfl, h _ G (.refl G) su (.bl _)⟩
    | _ => cases e
  | _ => cases e
theorem op_i0 {g : Value → Value → Sem Value} {k : Int → Int → Int} (o : OpR X g (rI0 fun i j => .int (k i j))) : OpD X z g (iI (fun _ _ => true) fun i j => .int (k i j)) := by
  refine ⟨_, o, fun G S p q w x y Q e s su rp rq h => ?_⟩
  cases p with
  | int i =>
    cases q with
    | int j =>
      cases (show some (PV.int (k i j)) = some w from e)
      cases rp
      cases rq
      exact ⟨i, j, rfl, rfl, h _ G (.refl G) su (.int _)⟩
    | _ => cases e
  | _ => cases e
def pSub := iI (fun _ _ => true) fun i j => .int (i - j)
def pLt := iI (fun _ _ => true) fun i j => .bl (decide (i < j))
def pLe := iI (fun _ _ => true) fun i j => .bl (decide (i ≤ j))
def pGt := iI (fun _ _ => true) fun i j => .bl (decide (j < i))
def pGe := iI (fun _ _ => true) fun i j => .bl (decide (j ≤ i))
def pMod := iI (fun _ j => decide (0 < j)) fun i j => .int (i % j)
def okDiv (j : Int) : Bool := decide (0 < j) && decide (j < 1000000000000000000000)
def pDiv := iI (fun _ j => okDiv j) fun i j => .int (i / j)
def okMul (i j : Int) : Bool := (decide (-18446744073709551616 < i) && decide (i < 18446744073709551616)) || (decide (-18446744073709551616 < j) && decide (j < 18446744073709551616))
def okPow (i j : Int) : Bool := decide (0 ≤ j) && decide (j ≤ 1000000) && decide (i.natAbs < 18446744073709551616)
def pPow := iI okPow fun i j => .int (i ^ j.toNat)
theorem op_pSub : OpD X z (binaryOp .Sub) pSub := op_i0 op_sub
theorem op_pLt : OpD X z (compareOp .Lt) pLt := op_iB op_lt
theorem op_pLe : OpD X z (compareOp .LtE) pLe := op_iB op_le
theorem op_pGt : OpD X z (compareOp .Gt) pGt := op_iB op_gt
theorem op_pGe : OpD X z (compareOp .GtE) pGe := op_iB op_ge
theorem op_pMod : OpD X z (binaryOp .Mod) pMod := op_iI (C := fun _ j => decide (0 < j)) op_mod fun i j h => of_decide_eq_true h
theorem op_pDiv : OpD X z (binaryOp .FloorDiv) pDiv := op_iI (C := fun _ j => okDiv j) op_fdivW fun i j h => by
  unfold okDiv at h
  simp only [Bool.and_eq_true, decide_eq_true_eq] at h
  exact wide_div (b := 80) h.1 (by
    have : j.natAbs < 1000000000000000000000 := by omega
    exact Nat.lt_of_lt_of_le this (by decide)) (by decide) (by decide)
theorem op_pPow : OpD X z (binaryOp .Pow) pPow := op_iI op_pow fun i j h => by
  unfold okPow at h
  simp only [Bool.and_eq_true, decide_eq_true_eq] at h
  exact ⟨h.1.1, h.1.2, Nat.lt_of_lt_of_le h.2 (by decide)⟩
def pMulI := iI okMul fun i j => .int (i * j)
theorem op_pMulI : OpD X z (binaryOp .Mult) pMulI := op_iI op_mul fun i j h => by
  unfold okMul at h
  simp only [Bool.or_eq_true, Bool.and_eq_true, decide_eq_true_eq] at h
  have e : (2 : Int) ^ 64 = 18446744073709551616 := by decide
  rcases h with h | h
  · exact .inl (by rw [e]; exact h)
  · exact .inr (by rw [e]; exact h)
/-- list * int: a new list as a value; tuple * int -/
def pMulL : Stt → PV → PV → Option PV := fun _ p q => match p, q with
  | .lst xs, .int k => if k < 1048576 ∧ -1048576 < k ∧ xs.length * k.toNat ≤ sizeLine then some (.lst (List.replicate k.toNat xs).flatten) else none
  | .tup xs, .int k => if xs ≠ [] ∧ 2 ≤ k ∧ k ≤ 1000 ∧ xs.length ≤ 1000 then some (.tup (List.replicate k.toNat xs).flatten) else none
  | _, _ => none
theorem flat_len (n : Nat) (xs : List V) : (List.replicate n xs).flatten.length = xs.length * n := by
  induction n with
  | zero => simp
  | succ n ih => rw [List.replicate_succ, List.flatten_cons, List.length_append, ih, Nat.mul_succ]; omega
theorem op_pMulL (hK : z.K = X.K := by rfl) : OpD X z (binaryOp .Mult) pMulL := by
  refine ⟨_, op_rep.or op_repT, fun G S p q w x y Q e s su rp rq h => ?_⟩
  cases p with
  | lst xs =>
    cases q with
    | int k =>
      simp only [pMulL] at e
      split at e
      · rename_i hc
        cases e
        cases rq
        obtain ⟨a, vs, rfl, q, rr⟩ := rp.sqL
        have e2 : (2 : Int) ^ 63 = 9223372036854775808 := by decide
        refine .inl ⟨a, k, vs, rfl, rfl, q, by rw [e2]; omega, by rw [e2]; omega, by rw [← rr.length]; exact hc.2.2, fun p hn => ?_⟩
        have M := (Ext.frozen (o := .lst (List.replicate k.toNat vs).flatten) hn).mon su
        exact h (.ref p) (G.frozen p (.lst (List.replicate k.toNat vs).flatten)) (Ext.frozen hn) (sure_frozen su hn) (.lst (.inr rfl) upd_same ((rr.rep k.toNat).mon M))
      · cases e
    | _ => cases e
  | tup xs =>
    cases q with
    | int k =>
      simp only [pMulL] at e
      split at e
      · rename_i hc
        cases e
        cases rq
        obtain ⟨a, vs, rfl, q, rr⟩ := rp.sqT
        refine .inr ⟨a, k, vs, rfl, rfl, by rw [← hK]; exact q, fun e => ?_, hc.2.1, hc.2.2.1, by rw [← rr.length]; exact hc.2.2.2, fun p hn => ?_⟩
        · subst e
          cases rr
          exact hc.1 rfl
        · have M := (Ext.frozen (o := .tup (List.replicate k.toNat vs).flatten) hn).mon su
          exact h (.ref p) (G.frozen p (.tup (List.replicate k.toNat vs).flatten)) (Ext.frozen hn) (sure_frozen su hn) (.tup (.inl ⟨.inr rfl, upd_same⟩) ((rr.rep k.toNat).mon M))
      · cases e
    | _ => cases e
  | _ => cases e
def pMul (S : Stt) (p q : PV) : Option PV := (pMulI S p q).or (pMulL S p q)
theorem op_pMul (hK : z.K = X.K := by rfl) : OpD X z (binaryOp .Mult) pMul := op_pMulI.or (op_pMulL hK)
/-- + of ints, texts, tuples, lists -/
def pAddI := iI (fun _ _ => true) fun i j => .int (i + j)
def pAddS : Stt → PV → PV → Option PV := fun _ p q => match p, q with
  | .str x, .str y => if x.length + y.length ≤ sizeLine then some (.str (x ++ y)) else none
  | .tup xs, .tup ys => if xs.length + ys.length ≤ sizeLine then some (.tup (xs ++ ys)) else none
  | .lst xs, .lst ys => if xs.length + ys.length ≤ sizeLine then some (.lst (xs ++ ys)) else none
  | _, _ => none
theorem repL_nil {K : PySem.W.Frag} {G : Wd} {xs : List PV} {vs : List V} (r : RepL K G xs vs) : vs = [] → xs = [] := fun e => by
  subst e
  cases r
  rfl
theorem op_pAddS (hK : z.K = X.K := by rfl) : OpD X z (binaryOp .Add) pAddS := by
  refine ⟨_, (op_add_str.or op_catA).or op_cat, fun G S p q w x y Q e s su rp rq h => ?_⟩
  cases p with
  | str x =>
    cases q with
    | str y =>
      simp only [pAddS] at e
      split at e
      · rename_i hc
        cases e
        cases rp
        cases rq
        exact .inl (.inl ⟨_, _, rfl, rfl, hc, h _ G (.refl G) su (.str _)⟩)
      · cases e
    | _ => cases e
  | tup xs =>
    cases q with
    | tup ys =>
      simp only [pAddS] at e
      split at e
      · rename_i hc
        cases e
        obtain ⟨a, vs, rfl, q1, r1⟩ := rp.sqT
        obtain ⟨b, ws, rfl, q2, r2⟩ := rq.sqT
        refine .inl (.inr ⟨a, b, vs, ws, rfl, rfl, by rw [← hK]; exact q1, by rw [← hK]; exact q2, by rw [← r1.length, ← r2.length]; exact hc, fun e => ?_, fun _ e => ?_, fun _ _ p hn => ?_⟩)
        · have := repL_nil r1 e
          subst this
          exact h _ G (.refl G) su rq
        · have := repL_nil r2 e
          subst this
          exact h _ G (.refl G) su (by rw [List.append_nil]; exact rp)
        · have M := (Ext.frozen (o := .tup (vs ++ ws)) hn).mon su
          exact h (.ref p) (G.frozen p (.tup (vs ++ ws))) (Ext.frozen hn) (sure_frozen su hn) (.tup (.inl ⟨.inr rfl, upd_same⟩) ((r1.append r2).mon M))
      · cases e
    | _ => cases e
  | lst xs =>
    cases q with
    | lst ys =>
      simp only [pAddS] at e
      split at e
      · rename_i hc
        cases e
        obtain ⟨a, vs, rfl, q1, r1⟩ := rp.sqL
        obtain ⟨b, ws, rfl, q2, r2⟩ := rq.sqL
        refine .inr ⟨a, b, vs, ws, rfl, rfl, q1, q2, by rw [← r1.length, ← r2.length]; exact hc, fun p hn => ?_⟩
        have M := (Ext.frozen (o := .lst (vs ++ ws)) hn).mon su
        exact h (.ref p) (G.frozen p (.lst (vs ++ ws))) (Ext.frozen hn) (sure_frozen su hn) (.lst (.inr rfl) upd_same ((r1.append r2).mon M))
      · cases e
    | _ => cases e
  | _ => cases e
def pAdd (S : Stt) (p q : PV) : Option PV := (pAddI S p q).or (pAddS S p q)
theorem op_pAdd (hK : z.K = X.K := by rfl) : OpD X z (binaryOp .Add) pAdd := (op_i0 op_add).or (op_pAddS hK)
/-- is None -/
def pIs : Stt → PV → PV → Option PV := fun _ p q => match q, p with
  | .non, .non => some (.bl true)
  | .non, .raw _ => none
  | .non, _ => some (.bl false)
  | _, _ => none
def pIsNot : Stt → PV → PV → Option PV := fun _ p q => match q, p with
  | .non, .non => some (.bl false)
  | .non, .raw _ => none
  | .non, _ => some (.bl true)
  | _, _ => none
theorem op_pIs : OpD X z (compareOp .Is) pIs := by
  refine ⟨_, op_isN, fun G S p q w x y Q e s su rp rq h => ?_⟩
  cases q with
  | non =>
    cases rq
    cases rp <;> first
      | (cases e; exact ⟨rfl, h _ G (.refl G) su (.bl _)⟩)
      | (cases e; done)
  | _ => cases p <;> cases e
theorem op_pIsNot : OpD X z (compareOp .IsNot) pIsNot := by
  refine ⟨_, op_notN, fun G S p q w x y Q e s su rp rq h => ?_⟩
  cases q with
  | non =>
    cases rq
    cases rp <;> first
      | (cases e; exact ⟨rfl, h _ G (.refl G) su (.bl _)⟩)
      | (cases e; done)
  | _ => cases p <;> cases e
/-- in, over a list of data -/
def pIn : Stt → PV → PV → Option PV := fun _ p q => match q with
  | .lst xs => if (okd 60 p && okd 60 (.lst xs)) = true then some (.bl (xs.any fun y => eqv y p)) else none
  | _ => none
def pNotIn : Stt → PV → PV → Option PV := fun _ p q => match q with
  | .lst xs => if (okd 60 p && okd 60 (.lst xs)) = true then some (.bl (!xs.any fun y => eqv y p)) else none
  | _ => none
theorem any_toDs (p : PV) : ∀ xs : List PV, (toDs xs).any (fun y => PyData.eqv y p.toD) = xs.any fun y => eqv y p
  | [] => rfl
  | x :: xs => by
    simp only [toDs, List.any_cons, any_toDs p xs]
    rfl
theorem op_pIn {j : Nat} (hr : Room j X.A) (hK : z.K = X.K := by rfl) : OpD X z (compareOp .In) pIn := by
  refine ⟨_, op_inD (by have := hr.un; omega), fun G S p q w x y Q e s su rp rq h => ?_⟩
  cases q with
  | lst xs =>
    simp only [pIn] at e
    split at e
    · rename_i hc
      rw [Bool.and_eq_true] at hc
      cases e
      rw [hK] at s rp rq
      exact ⟨_, _, rep_dp 60 _ _ hc.1 rp, rep_dp 60 _ _ hc.2 rq, okd_shaped hc.1, okd_shaped hc.2, by rw [any_toDs]; exact h _ G (.refl G) su (.bl _)⟩
    · cases e
  | _ => cases e
theorem op_pNotIn {j : Nat} (hr : Room j X.A) (hK : z.K = X.K := by rfl) : OpD X z (compareOp .NotIn) pNotIn := by
  refine ⟨_, op_notInD (by have := hr.un; omega), fun G S p q w x y Q e s su rp rq h => ?_⟩
  cases q with
  | lst xs =>
    simp only [pNotIn] at e
    split at e
    · rename_i hc
      rw [Bool.and_eq_true] at hc
      cases e
      rw [hK] at s rp rq
      exact ⟨_, _, rep_dp 60 _ _ hc.1 rp, rep_dp 60 _ _ hc.2 rq, okd_shaped hc.1, okd_shaped hc.2, by rw [any_toDs]; exact h _ G (.refl G) su (.bl _)⟩
    · cases e
  | _ => cases e

/-! ### subscripts, slices -/
variable {pos p2 : Pos} {a b : Expr} {da db : Cd PV}
theorem atI_rep {K : PySem.W.Frag} {G : Wd} {ps : List PV} {vs : List V} {i : Int} {p : PV} (r : RepL K G ps vs) (h : atI ps i = some p) : ∃ v, atI vs i = some v ∧ Rep K G p v := by
  unfold atI at h ⊢
  rw [← r.length]
  cases e : ixN ps.length i with
  | none => rw [e] at h; cases h
  | some j =>
    rw [e] at h
    obtain ⟨v, e1, r1⟩ := r.get (i := j) h
    exact ⟨v, e1, r1⟩
def pIx (S : Stt) (p q : PV) : Option PV := match res S p, q with
  | .tup xs, .int i => atI xs i
  | .lst xs, .int i => atI xs i
  | .scr ns, .int i => (atI ns i).map PV.int
  | .str z, .int i => if z.length ≤ sizeLine then (atI z.cps.toList i).map fun c => PV.str ⟨#[c]⟩ else none
  | _, _ => none
theorem atI_map {α β : Type} (f : α → β) (xs : List α) (i : Int) : atI (xs.map f) i = (atI xs i).map f := by
  unfold atI
  rw [List.length_map]
  cases ixN xs.length i with
  | none => rfl
  | some j => simp
theorem ix_rep {K : PySem.W.Frag} {G : Wd} {S : Stt} {p q w : PV} {x y : V} {Q : VK} (h : pIx S p q = some w) (s : RepS K G S) (rp : Rep K G p x) (rq : Rep K G q y) (k : ∀ v, Rep K G w v → Q v G.H) : rIx K x y G.H Q := by
  cases q with
  | int i =>
    cases rq
    cases p with
    | tup xs =>
      obtain ⟨a, vs, rfl, q, r⟩ := rp.sqT
      obtain ⟨v, e, r1⟩ := atI_rep r h
      exact .inr (.inl ⟨a, vs, i, v, rfl, rfl, q, e, k v r1⟩)
    | lst xs =>
      obtain ⟨a, vs, rfl, q, r⟩ := rp.sqL
      obtain ⟨v, e, r1⟩ := atI_rep r h
      exact .inl ⟨a, vs, i, v, rfl, rfl, SqL.of q, e, k v r1⟩
    | scr ns =>
      obtain ⟨a, rfl, q⟩ := rp.sqS
      cases e : atI ns i with
      | none =>
        have h' : (atI ns i).map PV.int = some w := h
        rw [e] at h'; cases h'
      | some n =>
        have h' : (atI ns i).map PV.int = some w := h
        rw [e] at h'
        cases h'
        exact .inl ⟨a, _, i, .int n, rfl, rfl, q, by rw [atI_map, e]; rfl, k _ (.int n)⟩
    | str z =>
      cases rp
      simp only [pIx, res] at h
      split at h
      · rename_i hl
        cases e : atI z.cps.toList i with
        | none => rw [e] at h; cases h
        | some c =>
          rw [e] at h
          cases h
          exact .inr (.inr ⟨z, i, c, rfl, rfl, hl, e, k _ (.str _)⟩)
      · cases h
    | ref n =>
      unfold pIx res at h
      cases e : S[n]? with
      | none => simp only [e] at h; cases h
      | some o =>
        cases o with
        | lst xs =>
          simp only [e] at h
          obtain ⟨a, vs, rfl, _, q, r⟩ := rp.sqR s e
          obtain ⟨v, e1, r1⟩ := atI_rep r h
          exact .inl ⟨a, vs, i, v, rfl, rfl, SqL.of q, e1, k v r1⟩
    | _ => cases h
  | _ =>
    unfold pIx at h
    split at h <;> first | cases h | (rename_i h1 h2; cases h2)
theorem me_ix (ha : ME X z a da) (hb : ME X z b db) (hK : z.K = X.K := by rfl) (hs : PlainIx b := by exact fun _ _ => rfl) : ME X z (.Subscript a b pos) (dOp pIx da db) := by
  refine (pe_ix ix_seq ha hb hs).imp fun σ H Q h => ?_
  refine re_op (g := fun _ _ => pure .none) (f := pIx) (r := rIx X.K) (fun G S p q w x y Q e s su rp rq h => ?_) h
  rw [hK] at s rp rq
  exact ix_rep e s rp rq fun v r => h v G (.refl G) su (by rw [hK]; exact r)
/-- the items of xs[lo:hi] -/
def cutP {α : Type} (xs : List α) (lo hi : Option Int) : List α := (xs.drop (HT.sIx xs.length 0 lo)).take (HT.sIx xs.length xs.length hi - HT.sIx xs.length 0 lo)
theorem RepL.cut {K : PySem.W.Frag} {G : Wd} {ps : List PV} {vs : List V} (r : RepL K G ps vs) (lo hi : Option Int) : RepL K G (cutP ps lo hi) (cutV vs lo hi) := by
  unfold cutP cutV
  rw [r.length]
  exact (r.drop _).take _
theorem cut_whole {α : Type} (xs : List α) {lo hi : Option Int} (h : HT.sIx xs.length 0 lo = 0 ∧ HT.sIx xs.length xs.length hi = xs.length) : cutP xs lo hi = xs := by
  unfold cutP
  rw [h.1, h.2]
  simp
def PostO (z : Zx) (G : Wd) (σ : St) (Q : Option Int → Hp → Prop) : Out (Option Int) → Prop
  | .ok o env S => ∀ (G' : Wd), Mon G G' → At z.K z.G0 G' S env σ → Q o G'.H
  | .raise c w env S => ∀ σ', PRaise z G c w env S σ'
  | .bad => False
def RO (z : Zx) (d : Cd (Option Int)) : TO := fun σ H Q => ∃ G env S, G.H = H ∧ At z.K z.G0 G S env σ ∧ PostO z G σ Q (d env S)
abbrev MO (X : Cx) (z : Zx) (e : Option Expr) (d : Cd (Option Int)) : Prop := PO X e (RO z d)
theorem PostO.later {z : Zx} {G G1 : Wd} {σ : St} {Q : Option Int → Hp → Prop} {o : Out (Option Int)} (h : PostO z G σ Q o) (M : Mon G G1) : PostO z G1 σ Q o := by
  cases o with
  | ok p env S => exact fun G' m a => h G' (M.trans m) a
  | raise c w env S => exact fun σ' => (h σ').later M
  | bad => exact h
theorem lwO {z : Zx} {σ : St} {Q : Option Int → Hp → Prop} : Lw z (fun G o => PostO z G σ Q o) := ⟨fun _ _ _ h m => h.later m, fun _ _ _ _ _ h => h, fun _ h => h⟩
theorem toO {β : Type} {F : Wd → Out β → Prop} {G : Wd} {env : Env} {S : Stt} {σ : St} (L : Lw z F) {d : Cd (Option Int)} {k : Option Int → Cd β} {R : Option Int → Hp → Prop} (A : At z.K z.G0 G S env σ) (P : F G (bnd d k env S))
    (h : ∀ o env1 S1 G1, Mon G G1 → At z.K z.G0 G1 S1 env1 σ → F G1 (k o env1 S1) → R o G1.H) : RO z d σ G.H R := by
  refine ⟨G, env, S, rfl, A, ?_⟩
  unfold bnd at P
  cases e : d env S with
  | ok p env1 S1 =>
    rw [e] at P
    exact fun G1 m a => h p env1 S1 G1 m a (L.later _ _ _ P m)
  | raise c w env1 S1 =>
    rw [e] at P
    exact L.rais _ _ _ _ _ P
  | bad =>
    rw [e] at P
    exact (L.bad _ P).elim
def dNoPart : Cd (Option Int) := ret none
def dPart (d : Cd PV) : Cd (Option Int) := bnd d fun p => match p with
  | .int i => ret (some i)
  | _ => fun _ _ => .bad
theorem _root_.L2.PO.imp {e : Option Expr} {t t' : TO} (h : PO X e t) (i : ∀ σ H Q, t' σ H Q → t σ H Q) : PO X e t' := ⟨fun pins s σ H Q I q => h.run pins s σ H Q I (i σ H Q q)⟩
theorem mo_none : MO X z none dNoPart := po_none.imp fun σ H Q ⟨G, env, S, e, A, P⟩ => by
  subst e
  exact P G (Mon.refl _) A
theorem mo_some {d : Cd PV} (h : ME X z a d) : MO X z (some a) (dPart d) := (po_some h).imp fun σ H Q ⟨G, env, S, e, A, P⟩ => by
  subst e
  refine toE lwO A P fun p env1 S1 v G1 m1 A1 r1 P1 => ?_
  cases p with
  | int i =>
    cases r1
    exact ⟨i, rfl, P1 G1 (Mon.refl _) A1⟩
  | _ => exact P1.elim
def pCut (S : Stt) (p : PV) (lo hi : Option Int) : Option PV := match res S p with
  | .tup xs => some (.tup (cutP xs lo hi))
  | .lst xs => some (.lst (cutP xs lo hi))
  | .scr ns => some (.lst ((cutP ns lo hi).map PV.int))
  | _ => none
def dCut (d : Cd PV) (lo hi : Cd (Option Int)) : Cd PV := bnd d fun p => bnd lo fun l => bnd hi fun h => fun e s => match pCut s p l h with
  | some w => .ok w e s
  | none => .bad
theorem cutP_map {α β : Type} (f : α → β) (xs : List α) (lo hi : Option Int) : cutP (xs.map f) lo hi = (cutP xs lo hi).map f := by
  unfold cutP
  rw [List.length_map, List.map_take, List.map_drop]
theorem cut_rep {K : PySem.W.Frag} {G : Wd} {S : Stt} {p w : PV} {lo hi : Option Int} {x : V} {Q : VK} (h : pCut S p lo hi = some w) (s : RepS K G S) (su : Sure G) (rp : Rep K G p x) (k : ∀ v G', Ext G G' → Sure G' → Rep K G' w v → Q v G'.H) :
    rSlA K x lo hi G.H Q ∨ rSlL K x lo hi G.H Q := by
  have newL : ∀ (a : Addr) (vs : List V) (xs : List PV), SqL K G.H a vs → RepL K G xs vs → w = .lst (cutP xs lo hi) → rSlL K (.ref a) lo hi G.H Q := fun a vs xs q r e => by
    refine ⟨a, vs, rfl, q, fun p hn => ?_⟩
    subst e
    have M := (Ext.frozen (o := .lst (cutV vs lo hi)) hn).mon su
    exact k (.ref p) (G.frozen p (.lst (cutV vs lo hi))) (Ext.frozen hn) (sure_frozen su hn) (.lst (.inr rfl) upd_same ((r.cut lo hi).mon M))
  cases p with
  | tup xs =>
    cases h
    obtain ⟨a, vs, rfl, q, r⟩ := rp.sqT
    refine .inl ⟨a, vs, rfl, q, fun hw => ?_, fun _ p hn => ?_⟩
    · rw [← r.length] at hw
      rw [cut_whole xs hw] at k
      exact k _ G (.refl G) su rp
    · have M := (Ext.frozen (o := .tup (cutV vs lo hi)) hn).mon su
      exact k (.ref p) (G.frozen p (.tup (cutV vs lo hi))) (Ext.frozen hn) (sure_frozen su hn) (.tup (.inl ⟨.inr rfl, upd_same⟩) ((r.cut lo hi).mon M))
  | lst xs =>
    cases h
    obtain ⟨a, vs, rfl, q, r⟩ := rp.sqL
    exact .inr (newL a vs xs (SqL.of q) r rfl)
  | scr ns =>
    cases h
    obtain ⟨a, rfl, q⟩ := rp.sqS
    exact .inr (newL a _ _ q (RepL.ints ns) (by rw [cutP_map]))
  | ref n =>
    unfold pCut res at h
    cases e : S[n]? with
    | none => simp only [e] at h; cases h
    | some o =>
      cases o with
      | lst xs =>
        simp only [e] at h
        cases h
        obtain ⟨a, vs, rfl, _, q, r⟩ := rp.sqR s e
        exact .inr (newL a vs xs (SqL.of q) r rfl)
  | _ => cases h
theorem me_cut {d : Cd PV} {lo hi : Option Expr} {dl dh : Cd (Option Int)} (h : ME X z a d) (hl : MO X z lo dl) (hh : MO X z hi dh) (hK : z.K = X.K := by rfl) : ME X z (.Subscript a (.Slice lo hi none p2) pos) (dCut d dl dh) := by
  refine (pe_slice (sl_tupA.or sl_list) h hl hh).imp fun σ H Q ⟨G, env, S, e, A, P⟩ => ?_
  subst e
  refine toE lwE A P fun p env1 S1 v G1 m1 A1 r1 P1 => toO lwE A1 P1 fun l env2 S2 G2 m2 A2 P2 => toO lwE A2 P2 fun u env3 S3 G3 m3 A3 P3 => ?_
  cases e : pCut S3 p l u with
  | none => simp only [e] at P3; exact P3.elim
  | some w =>
    simp only [e] at P3
    rw [← hK]
    exact cut_rep e A3.st A3.sure (r1.mon (m2.trans m3)) fun v G' x su r => P3 v G' (x.mon A3.sure) (A3.ext x su) r

/-! ### calls of built-ins -/
def CallD (X : Cx) (z : Zx) (f : Value) (g : Stt → List PV → Option PV) : Prop :=
  ∃ r : List V → Hp → VK → Prop, CallR X f r ∧ ∀ (G : Wd) (S : Stt) (ps : List PV) (w : PV) (vs : List V) (Q : VK), g S ps = some w → RepS z.K G S → Sure G → RepL z.K G ps vs →
    (∀ v G', Ext G G' → Sure G' → Rep z.K G' w v → Q v G'.H) → r vs G.H Q
def dFn (g : Stt → List PV → Option PV) (d : Cd (List PV)) : Cd PV := bnd d fun ps => fun e s => match g s ps with
  | some w => .ok w e s
  | none => .bad
variable {e : Expr} {es : List Expr} {d : Cd (List PV)} {p : Pos} {x : Str}
theorem ra_fn {f : Value} {g : Stt → List PV → Option PV} {r : List V → Hp → VK → Prop} {σ : St} {H : Hp} {Q : VK}
    (k : ∀ (G : Wd) (S : Stt) (ps : List PV) (w : PV) (vs : List V) (Q : VK), g S ps = some w → RepS z.K G S → Sure G → RepL z.K G ps vs → (∀ v G', Ext G G' → Sure G' → Rep z.K G' w v → Q v G'.H) → r vs G.H Q)
    (h : RE z (dFn g d) σ H Q) : tCB r (RA z d) σ H Q := by
  obtain ⟨G, env, S, e, A, P⟩ := h
  subst e
  refine toA lwE A P fun ps env1 S1 vs G1 m1 A1 r1 P1 => ?_
  cases e : g S1 ps with
  | none => simp only [e] at P1; exact P1.elim
  | some w =>
    simp only [e] at P1
    exact k G1 S1 ps w vs Q e A1.st A1.sure r1 fun v G' xx su rv => P1 v G' (xx.mon A1.sure) (A1.ext xx su) rv
theorem me_blt {id : String} {g : Stt → List PV → Option PV} (c : CallD X z (.builtin id) g) (hm : X.mg x = none) (ha : MA X z (e :: es) d) (hv : bootBuiltins x = some (.builtin id) := by decide +kernel) (hg : Gl X x := by rfl) (hn : x ≠ "__name__" := by decide) (hdb : (x == ("__debug__" : Str)) = false := by decide)
    (he : starEach (e :: es) X.env = (false, eval e X.env) :: starEach es X.env := by rfl) (hpl : (backTo pos (starEach es X.env)).any (·.1) = false := by rfl) : ME X z (.Call (.Name x p) (e :: es) [] pos) (dFn g d) := by
  obtain ⟨r, c, k⟩ := c
  exact (pe_callB c hg hm hv ha hn hdb he hpl).imp fun σ H Q h => ra_fn (f := .none) k h
theorem me_bty {T : String} {g : Stt → List PV → Option PV} (c : CallD X z (.type T) g) (hm : X.mg x = none) (ha : MA X z (e :: es) d) (hv : bootBuiltins x = some (.type T) := by decide +kernel) (hg : Gl X x := by rfl) (hn : x ≠ "__name__" := by decide) (hdb : (x == ("__debug__" : Str)) = false := by decide)
    (he : starEach (e :: es) X.env = (false, eval e X.env) :: starEach es X.env := by rfl) (hpl : (backTo pos (starEach es X.env)).any (·.1) = false := by rfl) : ME X z (.Call (.Name x p) (e :: es) [] pos) (dFn g d) := by
  obtain ⟨r, c, k⟩ := c
  exact (pe_callTy c hg hm hv ha hn hdb he hpl).imp fun σ H Q h => ra_fn (f := .none) k h
theorem repL1 {K : PySem.W.Frag} {G : Wd} {p : PV} {vs : List V} (r : RepL K G [p] vs) : ∃ v, vs = [v] ∧ Rep K G p v := by
  cases r with
  | cons h t => cases t; exact ⟨_, rfl, h⟩
theorem repL2 {K : PySem.W.Frag} {G : Wd} {p q : PV} {vs : List V} (r : RepL K G [p, q] vs) : ∃ v w, vs = [v, w] ∧ Rep K G p v ∧ Rep K G q w := by
  cases r with
  | cons h t =>
    cases t with
    | cons h' t' => cases t'; exact ⟨_, _, rfl, h, h'⟩
/-- len -/
def fLen (S : Stt) (ps : List PV) : Option PV := match ps with
  | [p] => match res S p with
    | .tup xs => some (.int xs.length)
    | .lst xs => some (.int xs.length)
    | .scr ns => some (.int ns.length)
    | .str x => if x.length ≤ sizeLine then some (.int x.length) else none
    | _ => none
  | _ => none
theorem c_len (hK : z.K = X.K := by rfl) : CallD X z (.builtin "len") fLen := by
  refine ⟨_, call_len_seq.or call_len_str, fun G S ps w vs Q h s su r k => ?_⟩
  rw [← hK]
  match ps, h with
  | [p], h =>
    obtain ⟨v, rfl, rp⟩ := repL1 r
    cases p with
    | tup xs =>
      cases h
      obtain ⟨a, vs, rfl, q, rr⟩ := rp.sqT
      exact .inl ⟨a, vs, rfl, .inr q, by rw [← rr.length]; exact k _ G (.refl G) su (.int _)⟩
    | lst xs =>
      cases h
      obtain ⟨a, vs, rfl, q, rr⟩ := rp.sqL
      exact .inl ⟨a, vs, rfl, .inl (SqL.of q), by rw [← rr.length]; exact k _ G (.refl G) su (.int _)⟩
    | scr ns =>
      cases h
      obtain ⟨a, rfl, q⟩ := rp.sqS
      exact .inl ⟨a, _, rfl, .inl q, by rw [List.length_map]; exact k _ G (.refl G) su (.int _)⟩
    | str x =>
      cases rp
      simp only [fLen, res] at h
      split at h
      · rename_i hl
        cases h
        exact .inr ⟨x, rfl, hl, k _ G (.refl G) su (.int _)⟩
      · cases h
    | ref n =>
      unfold fLen res at h
      cases e : S[n]? with
      | none => simp only [e] at h; cases h
      | some o =>
        cases o with
        | lst xs =>
          simp only [e] at h
          cases h
          obtain ⟨a, vs, rfl, _, q, rr⟩ := rp.sqR s e
          exact .inl ⟨a, vs, rfl, .inl (SqL.of q), by rw [← rr.length]; exact k _ G (.refl G) su (.int _)⟩
    | _ => cases h
def fInt (_ : Stt) (ps : List PV) : Option PV := match ps with
  | [.int i] => some (.int i)
  | [.bl b] => some (.int (if b then 1 else 0))
  | _ => none
theorem c_int : CallD X z (.type "int") fInt := by
  refine ⟨_, call_int1, fun G S ps w vs Q h s su r k => ?_⟩
  match ps, h with
  | [.int i], h =>
    cases h
    obtain ⟨v, rfl, rp⟩ := repL1 r
    cases rp
    exact .inl ⟨i, rfl, k _ G (.refl G) su (.int _)⟩
  | [.bl b], h =>
    cases h
    obtain ⟨v, rfl, rp⟩ := repL1 r
    cases rp
    exact .inr ⟨b, rfl, k _ G (.refl G) su (.int _)⟩
def fMin (_ : Stt) (ps : List PV) : Option PV := match ps with
  | [.int i, .int j] => some (.int (if j < i then j else i))
  | _ => none
def fMax (_ : Stt) (ps : List PV) : Option PV := match ps with
  | [.int i, .int j] => some (.int (if j > i then j else i))
  | _ => none
theorem c_min (hc : X.calm = true := by rfl) : CallD X z (.builtin "min") fMin := by
  refine ⟨_, call_min2 hc, fun G S ps w vs Q h s su r k => ?_⟩
  match ps, h with
  | [.int i, .int j], h =>
    cases h
    obtain ⟨v, u, rfl, rp, rq⟩ := repL2 r
    cases rp
    cases rq
    exact ⟨i, j, rfl, k _ G (.refl G) su (.int _)⟩
theorem c_max (hc : X.calm = true := by rfl) : CallD X z (.builtin "max") fMax := by
  refine ⟨_, call_max2 hc, fun G S ps w vs Q h s su r k => ?_⟩
  match ps, h with
  | [.int i, .int j], h =>
    cases h
    obtain ⟨v, u, rfl, rp, rq⟩ := repL2 r
    cases rp
    cases rq
    exact ⟨i, j, rfl, k _ G (.refl G) su (.int _)⟩
/-- isinstance of data -/
def tyN : PV → Option String
  | .non => some "NoneType"
  | .bl _ => some "bool"
  | .int _ => some "int"
  | .str _ => some "str"
  | .tup _ => some "tuple"
  | .lst _ => some "list"
  | .scr _ => none
  | _ => none
/-- a's class beneath b -/
def subT (a b : String) : Option Bool := if ["int", "bool", "str", "tuple", "list"].contains b = true then some (a == b || (a == "bool" && b == "int")) else none
def fIsi (_ : Stt) (ps : List PV) : Option PV := match ps with
  | [p, .raw (.ty n)] => (tyN p).bind fun t => (subT t n).map PV.bl
  | _ => none
theorem sub_kit {p : PV} {t n : String} {b : Bool} (h : tyN p = some t) (hb : subT t n = some b) : kitB t n = some b := by
  have hn : n = "int" ∨ n = "bool" ∨ n = "str" ∨ n = "tuple" ∨ n = "list" := by
    unfold subT at hb
    split at hb
    · rename_i hc
      simpa using hc
    · cases hb
  have ht : t = "NoneType" ∨ t = "bool" ∨ t = "int" ∨ t = "str" ∨ t = "tuple" ∨ t = "list" := by
    cases p <;> simp [tyN] at h <;> simp [← h]
  rcases hn with rfl | rfl | rfl | rfl | rfl <;> rcases ht with rfl | rfl | rfl | rfl | rfl | rfl <;>
    (rw [← hb]; decide +kernel)
theorem rep_ty {K : PySem.W.Frag} {G : Wd} {p : PV} {v : V} {t : String} (r : Rep K G p v) (h : tyN p = some t) : TyX K G.H v (.type t) := by
  cases p with
  | non => cases h; cases r; exact .base .non
  | bl b => cases h; cases r; exact .base (.bl b)
  | int i => cases h; cases r; exact .base (.int i)
  | str x => cases h; cases r; exact .base (.str x)
  | tup xs =>
    cases h
    cases r with
    | tup hh rr =>
      rcases hh with ⟨_, q⟩ | q
      · exact .base (.tup q)
      · rcases q with (q | ⟨o, q⟩) | ⟨o, its, n, q, c, _⟩
        · cases q
        · cases q
        · exact .kTuple q c
  | lst xs =>
    cases h
    cases r with
    | lst _ q rr => exact .base (.lst q)
  | _ => cases h
theorem c_isi (hK : z.K = X.K := by rfl) : CallD X z (.builtin "isinstance") fIsi := by
  refine ⟨_, call_isi, fun G S ps w vs Q h s su r k => ?_⟩
  rw [← hK]
  match ps, h with
  | [p, .raw (.ty n)], h =>
    obtain ⟨v, u, rfl, rp, rq⟩ := repL2 r
    cases rq
    have h' : ((tyN p).bind fun t => (subT t n).map PV.bl) = some w := h
    cases e : tyN p with
    | none => rw [e] at h'; cases h'
    | some t =>
      rw [e, Option.bind_some] at h'
      cases e2 : subT t n with
      | none => rw [e2] at h'; cases h'
      | some b =>
        rw [e2] at h'
        cases h'
        exact ⟨v, .ty n, .type t, .type n, b, rfl, .ty n, rep_ty rp e, kit_ty (sub_kit e e2), k _ G (.refl G) su (.bl b)⟩
/-- tuple(..), list(..) -/
def fTuple (S : Stt) (ps : List PV) : Option PV := match ps with
  | [p] => match res S p with
    | .tup xs => some (.tup xs)
    | .lst xs => some (.tup xs)
    | .scr ns => some (.tup (ns.map PV.int))
    | _ => none
  | _ => none
theorem c_tuple (hK : z.K = X.K := by rfl) : CallD X z (.type "tuple") fTuple := by
  refine ⟨_, call_tuple_of, fun G S ps w vs Q h s su r k => ?_⟩
  rw [← hK]
  have newT : ∀ (a : Addr) (ws : List V) (xs : List PV), SqL z.K G.H a ws → RepL z.K G xs ws → w = .tup xs → ∃ p ys, [V.ref a] = [.ref p] ∧ ((SqL z.K G.H p ys ∧ ∀ l, G.H l = none → Q (.ref l) (upd G.H l (.tup ys))) ∨ (SqT z.K G.H p ys ∧ Q (.ref p) G.H)) := fun a ws xs q rr e => by
    refine ⟨a, ws, rfl, .inl ⟨q, fun l hn => ?_⟩⟩
    subst e
    have M := (Ext.frozen (o := .tup ws) hn).mon su
    exact k (.ref l) (G.frozen l (.tup ws)) (Ext.frozen hn) (sure_frozen su hn) (.tup (.inl ⟨.inr rfl, upd_same⟩) (rr.mon M))
  match ps, h with
  | [p], h =>
    obtain ⟨v, rfl, rp⟩ := repL1 r
    cases p with
    | tup xs =>
      cases h
      obtain ⟨a, vs, rfl, q, rr⟩ := rp.sqT
      exact ⟨a, vs, rfl, .inr ⟨q, k _ G (.refl G) su rp⟩⟩
    | lst xs =>
      cases h
      obtain ⟨a, vs, rfl, q, rr⟩ := rp.sqL
      exact newT a vs xs (SqL.of q) rr rfl
    | scr ns =>
      cases h
      obtain ⟨a, rfl, q⟩ := rp.sqS
      exact newT a _ _ q (RepL.ints ns) rfl
    | ref n =>
      unfold fTuple res at h
      cases e : S[n]? with
      | none => simp only [e] at h; cases h
      | some o =>
        cases o with
        | lst xs =>
          simp only [e] at h
          cases h
          obtain ⟨a, vs, rfl, _, q, rr⟩ := rp.sqR s e
          exact newT a vs xs (SqL.of q) rr rfl
    | _ => cases h
/-- list(..): a new list -/
def itemsOf (S : Stt) (p : PV) : Option (List PV) := match res S p with
  | .tup xs => some xs
  | .lst xs => some xs
  | .scr ns => some (ns.map PV.int)
  | _ => none
def dListF (d : Cd PV) : Cd (List PV) := bnd d fun p => fun e s => match itemsOf s p with
  | some xs => .ok xs e s
  | none => .bad
theorem items_rep {K : PySem.W.Frag} {G : Wd} {S : Stt} {p : PV} {xs : List PV} {v : V} (h : itemsOf S p = some xs) (s : RepS K G S) (r : Rep K G p v) : ∃ a vs, v = .ref a ∧ (SqL K G.H a vs ∨ SqT K G.H a vs) ∧ RepL K G xs vs := by
  cases p with
  | tup ys =>
    cases h
    obtain ⟨a, vs, rfl, q, rr⟩ := r.sqT
    exact ⟨a, vs, rfl, .inr q, rr⟩
  | lst ys =>
    cases h
    obtain ⟨a, vs, rfl, q, rr⟩ := r.sqL
    exact ⟨a, vs, rfl, .inl (SqL.of q), rr⟩
  | scr ns =>
    cases h
    obtain ⟨a, rfl, q⟩ := r.sqS
    exact ⟨a, _, rfl, .inl q, RepL.ints ns⟩
  | ref n =>
    unfold itemsOf res at h
    cases e : S[n]? with
    | none => simp only [e] at h; cases h
    | some o =>
      cases o with
      | lst ys =>
        simp only [e] at h
        cases h
        obtain ⟨a, vs, rfl, _, q, rr⟩ := r.sqR s e
        exact ⟨a, vs, rfl, .inl (SqL.of q), rr⟩
  | _ => cases h
theorem mf_list {d : Cd PV} (ha : ME X z e d) (hm : X.mg "list" = none) (hK : z.K = X.K := by rfl) (hg : Gl X "list" := by rfl) (hs : starEach [e] X.env = (false, eval e X.env) :: starEach [] X.env := by rfl) (hpl : (backTo pos (starEach [] X.env)).any (·.1) = false := by rfl) :
    MF X z (.Call (.Name "list" p) [e] [] pos) (dListF d) := by
  refine (pe_callTy (x := "list") call_list_of hg hm (by decide +kernel) (pa_cons ha pa_nil hs) (by decide) (by decide) hs hpl).imp fun σ H Q ⟨G, env, S, e, A, P⟩ => ?_
  subst e
  refine toE lwF A P fun p env1 S1 v G1 m1 A1 r1 P1 => ?_
  cases e : itemsOf S1 p with
  | none => simp only [e] at P1; exact P1.elim
  | some xs =>
    simp only [e] at P1
    obtain ⟨a, vs, rfl, q, rr⟩ := items_rep e A1.st r1
    refine ⟨a, vs, rfl, by rw [← hK]; exact q, fun l hn => ?_⟩
    have M : Mon G1 (G1.fresh l (.lst vs)) := (Ext.fresh hn).mon A1.sure
    have q := A1.alone (vs := vs) hn
    exact P1 l vs _ M (A1.fresh hn) (rr.mon M) q.at_ q.nf q.nm q.n0 q.no
end
end FS

set_option Elab.async false
set_option linter.all false
set_option maxRecDepth 100000
/-! FsMore: places held alone, shared lists changed, walks, comprehensions. -/
namespace FS
open PySem PySem.Spec L2

section
variable {z : Zx} {G : Wd} {env : Env} {S : Stt} {σ : St} {i n : Nat}
theorem list_set_self {α : Type} {l : List α} {i : Nat} {a : α} (h : l[i]? = some a) : l.set i a = l := by
  apply List.ext_getElem?
  intro j
  rw [getElem?_set']
  by_cases hj : i = j
  · subst hj
    rw [if_pos rfl, if_pos (List.getElem?_eq_some_iff.mp h).1, h]
  · rw [if_neg hj]
/-- a held list becomes a value -/
theorem At.soft {xs : List PV} (A : At z.K z.G0 G S env σ) (h : env[i]? = some (.own xs)) : ∃ a, σ[i]? = some (some (.ref a)) ∧ At z.K z.G0 (G.freeze a) S (env.set i (.val (.lst xs))) σ ∧ Rep z.K (G.freeze a) (.lst xs) (.ref a) := by
  obtain ⟨a, vs, e1, al, r⟩ := A.thaw h
  have A1 : At z.K z.G0 G S (env.set i .none) (σ.set i none) := A.setSlot (.inl rfl)
  have al1 : Alone z G (env.set i .none) (σ.set i none) a vs := ⟨al.at_, al.nf, al.nm, al.n0, fun j ho e => by
    rw [getElem?_set'] at e
    by_cases hj : i = j
    · obtain ⟨ys, ho⟩ := ho
      rw [getElem?_set', if_pos hj] at ho
      split at ho <;> cases ho
    · rw [if_neg hj] at e
      exact al.no j ho e⟩
  have A2 := A1.freeze al1
  have r2 : Rep z.K (G.freeze a) (.lst xs) (.ref a) := .lst (.inr rfl) al.at_ (r.mon mon_freeze)
  have A3 := A2.setVal (i := i) r2
  rw [List.set_set, List.set_set, list_set_self e1] at A3
  exact ⟨a, e1, A3, r2⟩
/-- a held list changed -/
theorem At.pokeOwn {xs xs' : List PV} {a : Addr} {vs' : List V} (A : At z.K z.G0 G S env σ) (h : env[i]? = some (.own xs)) (e : σ[i]? = some (some (.ref a))) (r : RepL z.K G xs' vs') :
    Mon G ⟨G.m, G.fz, upd G.H a (.lst vs')⟩ ∧ At z.K z.G0 ⟨G.m, G.fz, upd G.H a (.lst vs')⟩ S (env.set i (.own xs')) σ := by
  obtain ⟨b, vs, e1, e2, r1, n1, n2⟩ := A.en.own i xs h
  rw [e] at e1
  cases e1
  have M : Mon G ⟨G.m, G.fz, upd G.H a (.lst vs')⟩ := ⟨⟨[], by simp⟩, fun c hc => ⟨hc, upd_ne (fun z => n1 (by rw [← z]; exact hc))⟩⟩
  have n0 := A.mine i a ⟨xs, h⟩ e
  have iown : ∀ j, IsOwn (env.set i (.own xs')) j → IsOwn env j := fun j ⟨ys, q⟩ => by
    rw [getElem?_set'] at q
    by_cases hj : i = j
    · subst hj; exact ⟨xs, h⟩
    · rw [if_neg hj] at q; exact ⟨ys, q⟩
  refine ⟨M, ⟨A.st.len, A.st.nd, A.st.nf, fun j c o h1 h2 => ?_⟩, ⟨by rw [List.length_set]; exact A.en.len, fun j p q => ?_, fun j ys q => ?_, fun j b d w q => ?_, fun j k c h1 h2 q1 q2 => A.en.dis j k c (iown j h1) (iown k h2) q1 q2⟩, ⟨A.ent.pre, A.ent.new, A.ent.fz, A.ent.fzn, fun c o h1 h2 => ?_, fun c hc => ?_⟩, fun j c h1 q => A.mine j c (iown j h1) q, fun c hc => ?_⟩
  · have q := A.st.ob j c o h1 h2
    have hne : c ≠ a := fun z => n2 (by rw [← z]; exact List.mem_of_getElem? h1)
    show RepO z.K _ o (upd G.H a (.lst vs') c)
    rw [upd_ne hne]
    exact q.mono M
  · rw [getElem?_set'] at q
    by_cases hj : i = j
    · rw [if_pos hj] at q
      split at q <;> cases q
    · rw [if_neg hj] at q
      obtain ⟨v, q1, q2⟩ := A.en.val j p q
      exact ⟨v, q1, q2.mon M⟩
  · rw [getElem?_set'] at q
    by_cases hj : i = j
    · subst hj
      rw [if_pos rfl] at q
      split at q
      · cases q
        exact ⟨a, vs', e, upd_same, r.mon M, n1, n2⟩
      · cases q
    · rw [if_neg hj] at q
      obtain ⟨c, ws, q1, q2, q3, q4, q5⟩ := A.en.own j ys q
      have hne : c ≠ a := fun z => hj (A.en.dis i j a ⟨xs, h⟩ ⟨ys, q⟩ e (by rw [q1, z]))
      exact ⟨c, ws, q1, (upd_ne hne).trans q2, q3.mon M, q4, q5⟩
  · rw [getElem?_set'] at q
    by_cases hj : i = j
    · rw [if_pos hj] at q
      split at q <;> cases q
    · rw [if_neg hj] at q
      obtain ⟨q1, q2, v, q3, q4⟩ := A.en.exc j b d w q
      have hne : d ≠ a := fun z => n1 (by rw [← z]; exact q2)
      exact ⟨q1, q2, v, (upd_ne hne).trans q3, q4.mon M⟩
  · have hne : c ≠ a := fun z => by rw [z, n0] at h1; cases h1
    exact (upd_ne hne).trans (A.ent.keep c o h1 h2)
  · have hne : c ≠ a := fun z => by
      rw [z] at hc
      have q : upd G.H a (.lst vs') a = none := hc
      rw [upd_same] at q; cases q
    exact A.ent.there c ((upd_ne hne).symm.trans hc)
  · have hne : c ≠ a := fun z => n1 (by rw [← z]; exact hc)
    obtain ⟨o, q⟩ := A.sure c hc
    exact ⟨o, (upd_ne hne).trans q⟩
/-- a shared list changed -/
theorem At.poke {xs' : List PV} {xs : List PV} {a : Addr} {vs' : List V} (A : At z.K z.G0 G S env σ) (hm : G.m[n]? = some a) (h : S[n]? = some (.lst xs)) (r : RepL z.K G xs' vs') :
    Mon G ⟨G.m, G.fz, upd G.H a (.lst vs')⟩ ∧ At z.K z.G0 ⟨G.m, G.fz, upd G.H a (.lst vs')⟩ (S.set n (.lst xs')) env σ := by
  have ham : a ∈ G.m := List.mem_of_getElem? hm
  have n1 := A.st.nf a ham
  have M : Mon G ⟨G.m, G.fz, upd G.H a (.lst vs')⟩ := ⟨⟨[], by simp⟩, fun c hc => ⟨hc, upd_ne (fun z => n1 (by rw [← z]; exact hc))⟩⟩
  refine ⟨M, ⟨by rw [List.length_set]; exact A.st.len, A.st.nd, A.st.nf, fun j c o h1 h2 => ?_⟩, A.en.over M fun j c ho e => ?_, ⟨A.ent.pre, A.ent.new, A.ent.fz, A.ent.fzn, fun c o h1 h2 => ?_, fun c hc => ?_⟩, A.mine, fun c hc => ?_⟩
  · rw [getElem?_set'] at h2
    by_cases hj : n = j
    · subst hj
      rw [if_pos rfl] at h2
      have e : c = a := by
        have : G.m[n]? = some c := h1
        rw [hm] at this
        exact (Option.some.inj this).symm
      split at h2
      · cases h2
        subst e
        exact ⟨vs', upd_same, r.mon M⟩
      · cases h2
    · rw [if_neg hj] at h2
      have hne : c ≠ a := fun z => hj (by
        have h1' : G.m[j]? = some c := h1
        obtain ⟨l1, q1⟩ := List.getElem?_eq_some_iff.mp hm
        obtain ⟨l2, q2⟩ := List.getElem?_eq_some_iff.mp h1'
        exact (List.getElem_inj A.st.nd).mp (by rw [q1, q2, z]))
      show RepO z.K _ o (upd G.H a (.lst vs') c)
      rw [upd_ne hne]
      exact (A.st.ob j c o h1 h2).mono M
  · obtain ⟨ys, ho⟩ := ho
    obtain ⟨b, ws, q1, q2, _, q4, q5⟩ := A.en.own j ys ho
    rw [e] at q1
    cases q1
    exact ⟨upd_ne (fun z => q5 (by rw [z]; exact ham)), q4, q5⟩
  · have hne : c ≠ a := fun z => by
      rcases A.ent.new a ham with q | q
      · exact h2 (by rw [z]; exact q)
      · rw [z, q] at h1; cases h1
    exact (upd_ne hne).trans (A.ent.keep c o h1 h2)
  · have hne : c ≠ a := fun z => by
      rw [z] at hc
      have q : upd G.H a (.lst vs') a = none := hc
      rw [upd_same] at q; cases q
    exact A.ent.there c ((upd_ne hne).symm.trans hc)
  · have hne : c ≠ a := fun z => n1 (by rw [← z]; exact hc)
    obtain ⟨o, q⟩ := A.sure c hc
    exact ⟨o, (upd_ne hne).trans q⟩
end

section
variable {X : Cx} {z : Zx} {pos p apos cpos : Pos}
/-- a name's value; a list that the name alone held is a value from here on -/
def dUse (i : Nat) : Cd PV := fun e s => match e[i]? with
  | some (.val p) => .ok p e s
  | some (.own xs) => .ok (.lst xs) (e.set i (.val (.lst xs))) s
  | _ => .bad
theorem me_use (i : Nat) {x : Str} (hN : X.N[i]? = some x := by rfl) (hv : Vis X.env.scope x := by first | exact Or.inl rfl | exact Or.inr (Or.inl rfl) | exact Or.inr (Or.inr rfl)) (hd : (x == ("__debug__" : Str)) = false := by decide)
    (hcd : (x == ("__classdict__" : Str)) = false := by decide) : ME X z (.Name x pos) (dUse i) := by
  refine (pe_var hN hv hd hcd).imp fun σ H Q ⟨G, env, S, e, A, P⟩ => ?_
  unfold dUse at P
  subst e
  cases q : env[i]? with
  | none => rw [q] at P; exact P.elim
  | some s =>
    rw [q] at P
    cases s with
    | none => exact P.elim
    | exc a d w => exact P.elim
    | val p =>
      obtain ⟨v, e1, r⟩ := A.en.val i p q
      exact ⟨v, e1, P v G (Mon.refl G) A r⟩
    | own xs =>
      obtain ⟨a, e1, A1, r⟩ := A.soft q
      exact ⟨_, e1, P (.ref a) (G.freeze a) mon_freeze A1 r⟩

/-! ### methods of lists -/
def MthD (X : Cx) (id : String) (mf : List PV → List PV → Option (PV × List PV)) : Prop :=
  ∃ r : V → List V → Hp → VK → Prop, MtR X id r ∧ ∀ (K : PySem.W.Frag) (G : Wd) (a : Addr) (vs : List V) (xs ps : List PV) (ws : List V) (w : PV) (xs' : List PV) (Q : VK), mf xs ps = some (w, xs') → G.H a = some (.lst vs) → RepL K G xs vs → RepL K G ps ws →
    (∀ v vs', Rep K G w v → RepL K G xs' vs' → Q v (upd G.H a (.lst vs'))) → r (.ref a) ws G.H Q
def mAppend : List PV → List PV → Option (PV × List PV) := fun xs ps => match ps with
  | [p] => if xs.length < sizeLine then some (.non, xs ++ [p]) else none
  | _ => none
theorem m_append : MthD X "list.append" mAppend := by
  refine ⟨_, mt_append, fun K G a vs xs ps ws w xs' Q h ha r rp k => ?_⟩
  match ps, h with
  | [p], h =>
    obtain ⟨v, rfl, r1⟩ := repL1 rp
    simp only [mAppend] at h
    split at h
    · rename_i hl
      cases h
      exact ⟨a, vs, v, rfl, rfl, ha, by rw [← r.length]; exact hl, k _ _ .non (r.snoc r1)⟩
    · cases h
def mPopAt : List PV → List PV → Option (PV × List PV) := fun xs ps => match ps with
  | [.int i] => if -1048576 < i ∧ i < 1048576 then (match ixN xs.length i with
    | some j => (xs[j]?).map fun p => (p, xs.eraseIdx j)
    | none => none) else none
  | _ => none
theorem m_popAt : MthD X "list.pop" mPopAt := by
  refine ⟨_, mt_popAt, fun K G a vs xs ps ws w xs' Q h ha r rp k => ?_⟩
  match ps, h with
  | [.int i], h =>
    obtain ⟨v, rfl, r1⟩ := repL1 rp
    cases r1
    simp only [mPopAt] at h
    split at h
    · rename_i hl
      cases e : ixN xs.length i with
      | none => rw [e] at h; cases h
      | some j =>
        rw [e] at h
        obtain ⟨h1, h2, h3, h4⟩ := ixN_seq e
        cases e2 : xs[j]? with
        | none => simp only [e2] at h; cases h
        | some p =>
          simp only [e2, Option.map_some] at h
          cases h
          obtain ⟨v, e3, r3⟩ := r.get e2
          have e63 : (2 : Int) ^ 63 = 9223372036854775808 := by decide
          exact ⟨a, vs, i, j, v, rfl, rfl, ha, by rw [e63]; omega, by rw [e63]; omega, by rw [← r.length]; exact h1, e3, k v _ r3 (r.erase j)⟩
    · cases h
def mExtend : List PV → List PV → Option (PV × List PV) := fun xs ps => match ps with
  | [.lst ys] => if xs.length + ys.length ≤ sizeLine then some (.non, xs ++ ys) else none
  | _ => none
theorem m_extend : MthD X "list.extend" mExtend := by
  refine ⟨_, mt_extend, fun K G a vs xs ps ws w xs' Q h ha r rp k => ?_⟩
  match ps, h with
  | [.lst ys], h =>
    obtain ⟨v, rfl, r1⟩ := repL1 rp
    obtain ⟨b, us, rfl, q, r2⟩ := r1.sqL
    simp only [mExtend] at h
    split at h
    · rename_i hl
      cases h
      exact ⟨a, b, vs, us, rfl, rfl, ha, q, by rw [← r.length, ← r2.length]; exact hl, k _ _ .non (r.append r2)⟩
    · cases h
variable {o e : Expr} {es : List Expr} {da : Cd (List PV)} {d : Cd PV} {name : Str} {id : String} {mf : List PV → List PV → Option (PV × List PV)}
/-- x.m(..), x a list that its name alone holds -/
def dMthO (i : Nat) (mf : List PV → List PV → Option (PV × List PV)) (da : Cd (List PV)) : Cd PV := fun e s => match e[i]? with
  | some (.own _) => bnd da (fun ps => fun e s => match e[i]? with
    | some (.own xs) => match mf xs ps with
      | some (w, xs') => .ok w (e.set i (.own xs')) s
      | none => .bad
    | _ => .bad) e s
  | _ => .bad
theorem me_mthO (i : Nat) {x : Str} {slot : PySem.Slot "list" name id} (M : MthD X id mf) (hty : typeOf (.builtin id) = pure (.type "method_descriptor")) (ha : MA X z (e :: es) da)
    (hN : X.N[i]? = some x := by rfl) (hv : Vis X.env.scope x := by first | exact Or.inl rfl | exact Or.inr (Or.inl rfl) | exact Or.inr (Or.inr rfl)) (hd : (x == ("__debug__" : Str)) = false := by decide)
    (hcd : (x == ("__classdict__" : Str)) = false := by decide)
    (hbase : attributeBase (.Name x p) name X.env (eval (.Name x p) X.env) = eval (.Name x p) X.env := by rfl)
    (hfew : ((backTo cpos (starEach (e :: es) X.env)).all (fun x => !x.1) && (backToKw cpos (keywordEach [] X.env)).all (fun x => x.1.isSome)
      && decide ((e :: es).length + ([] : List Keyword).length + (if ([] : List Keyword).isEmpty then 0 else 1) < 30)) = true := by rfl)
    (hline : (apos.endLine == cpos.line) = true := by rfl) (hs : starEach (e :: es) X.env = (false, eval e X.env) :: starEach es X.env := by rfl) (hplain : (backTo cpos (starEach es X.env)).any (·.1) = false := by rfl) :
    ME X z (.Call (.Attribute (.Name x p) name apos) (e :: es) [] cpos) (dMthO i mf da) := by
  obtain ⟨r, hm, k⟩ := M
  refine (pe_bm PySem.F.plainAttrs_list slot hty hm (pe_var hN hv hd hcd) ha hbase hfew hline hs hplain).imp fun σ H Q ⟨G, env, S, e, A, P⟩ => ?_
  subst e
  unfold dMthO at P
  cases q : env[i]? with
  | none => simp only [q] at P; exact P.elim
  | some sl =>
    cases sl with
    | none => simp only [q] at P; exact P.elim
    | exc a d w => simp only [q] at P; exact P.elim
    | val p => simp only [q] at P; exact P.elim
    | own xs =>
      simp only [q] at P
      obtain ⟨a, vs, e1, e2, _⟩ := A.en.own i xs q
      refine ⟨.ref a, e1, .inl ⟨rfl, vs, SqL.of e2⟩, ?_⟩
      refine toA lwE A P fun ps env1 S1 ws G1 m1 A1 r1 P1 => ?_
      cases q1 : env1[i]? with
      | none => simp only [q1] at P1; exact P1.elim
      | some sl =>
        cases sl with
        | none => simp only [q1] at P1; exact P1.elim
        | val p => simp only [q1] at P1; exact P1.elim
        | exc a d w => simp only [q1] at P1; exact P1.elim
        | own ys =>
          simp only [q1] at P1
          cases e : mf ys ps with
          | none => simp only [e] at P1; exact P1.elim
          | some wx =>
            obtain ⟨w, xs'⟩ := wx
            simp only [e] at P1
            obtain ⟨b, us, f1, f2, f3, _⟩ := A1.en.own i ys q1
            rw [e1] at f1
            cases f1
            refine k z.K G1 a us ys ps ws w xs' Q e f2 f3 r1 fun v vs' rv rx => ?_
            obtain ⟨M, A2⟩ := A1.pokeOwn q1 e1 rx
            exact P1 v _ M A2 (rv.mon M)
/-- o.m(..), o a shared list -/
def dMthR (mf : List PV → List PV → Option (PV × List PV)) (d : Cd PV) (da : Cd (List PV)) : Cd PV := bnd d fun p => match p with
  | .ref n => fun e s => match s[n]? with
    | some (.lst _) => bnd da (fun ps => fun e s => match s[n]? with
      | some (.lst xs) => match mf xs ps with
        | some (w, xs') => .ok w e (s.set n (.lst xs'))
        | none => .bad
      | none => .bad) e s
    | none => .bad
  | _ => fun _ _ => .bad
theorem me_mthR {slot : PySem.Slot "list" name id} (M : MthD X id mf) (hty : typeOf (.builtin id) = pure (.type "method_descriptor")) (ho : ME X z o d) (ha : MA X z (e :: es) da) (hK : z.K = X.K := by rfl)
    (hbase : attributeBase o name X.env (eval o X.env) = eval o X.env := by rfl)
    (hfew : ((backTo cpos (starEach (e :: es) X.env)).all (fun x => !x.1) && (backToKw cpos (keywordEach [] X.env)).all (fun x => x.1.isSome)
      && decide ((e :: es).length + ([] : List Keyword).length + (if ([] : List Keyword).isEmpty then 0 else 1) < 30)) = true := by rfl)
    (hline : (apos.endLine == cpos.line) = true := by rfl) (hs : starEach (e :: es) X.env = (false, eval e X.env) :: starEach es X.env := by rfl) (hplain : (backTo cpos (starEach es X.env)).any (·.1) = false := by rfl) :
    ME X z (.Call (.Attribute o name apos) (e :: es) [] cpos) (dMthR mf d da) := by
  obtain ⟨r, hm, k⟩ := M
  refine (pe_bm PySem.F.plainAttrs_list slot hty hm ho ha hbase hfew hline hs hplain).imp fun σ H Q ⟨G, env, S, e, A, P⟩ => ?_
  subst e
  refine toE lwE A P fun p env1 S1 v G1 m1 A1 r1 P1 => ?_
  cases p with
  | ref n =>
    cases q : S1[n]? with
    | none => simp only [q] at P1; exact P1.elim
    | some so =>
      cases so with
      | lst xs =>
        simp only [q] at P1
        obtain ⟨a, vs, rfl, hmn, e2, _⟩ := r1.sqR A1.st q
        refine ⟨.inl ⟨rfl, vs, SqL.of e2⟩, ?_⟩
        refine toA lwE A1 P1 fun ps env2 S2 ws G2 m2 A2 r2 P2 => ?_
        cases q2 : S2[n]? with
        | none => simp only [q2] at P2; exact P2.elim
        | some so =>
          cases so with
          | lst ys =>
            simp only [q2] at P2
            cases e : mf ys ps with
            | none => simp only [e] at P2; exact P2.elim
            | some wx =>
              obtain ⟨w, xs'⟩ := wx
              simp only [e] at P2
              obtain ⟨b, us, eb, hm2, f2, f3⟩ := (r1.mon m2).sqR A2.st q2
              cases eb
              refine k z.K G2 a us ys ps ws w xs' Q e f2 f3 r2 fun v vs' rv rx => ?_
              obtain ⟨M, A3⟩ := A2.poke hm2 q2 rx
              exact P2 v _ M A3 (rv.mon M)
  | _ => exact P1.elim

/-! ### o[i] = e -/
variable {oi ei : Expr} {di dv : Cd PV}
/-- x[k] = v, x a list that its name alone holds -/
def dSetO (i : Nat) (di dv : Cd PV) : Cd Flw := bnd dv fun w => fun e s => match e[i]? with
  | some (.own _) => bnd di (fun k => fun e s => match e[i]?, k with
    | some (.own xs), .int k => match ixN xs.length k with
      | some j => .ok .next (e.set i (.own (xs.set j w))) s
      | none => .bad
    | _, _ => .bad) e s
  | _ => .bad
theorem ms_setO (i : Nat) {x : Str} {tpos : Pos} (hv : ME X z ei dv) (hi : ME X z oi di)
    (hN : X.N[i]? = some x := by rfl) (hvis : Vis X.env.scope x := by first | exact Or.inl rfl | exact Or.inr (Or.inl rfl) | exact Or.inr (Or.inr rfl)) (hd : (x == ("__debug__" : Str)) = false := by decide)
    (hcd : (x == ("__classdict__" : Str)) = false := by decide)
    (ha : ∀ v, assign (.Subscript (.Name x p) oi tpos) X.env v = (do
      let ov ← holding [v] (eval (.Name x p) X.env)
      let iv ← holding [v, ov] (eval oi X.env)
      standAt tpos
      holding [v, ov, iv] (setItem ov iv v)
      release [v, ov, iv] []) := by intro _; rfl)
    (hs : swapsWithSole [.Subscript (.Name x p) oi tpos] ei pos.line X.env = pure false := by rfl) (hw : swappedStores [.Subscript (.Name x p) oi tpos] ei X.env = pure none := by rfl)
    (h1 : (assignEach [.Subscript (.Name x p) oi tpos] X.env).map (·.2) = [assign (.Subscript (.Name x p) oi tpos) X.env] := by rfl) :
    MS X z (.Assign [.Subscript (.Name x p) oi tpos] ei pos) (dSetO i di dv) := by
  refine PS.imp (ps_asg hv (pg_sub (pe_var hN hvis hd hcd) hi set_list ha) hs hw h1) fun D σ H ⟨G, env, S, e, A, P⟩ => ?_
  subst e
  refine toE lwS A P fun w env1 S1 v G1 m1 A1 r1 P1 => ?_
  cases q : env1[i]? with
  | none => simp only [q] at P1; exact P1.elim
  | some sl =>
    cases sl with
    | none => simp only [q] at P1; exact P1.elim
    | val _ => simp only [q] at P1; exact P1.elim
    | exc a d w => simp only [q] at P1; exact P1.elim
    | own ys =>
      simp only [q] at P1
      obtain ⟨a, ws, ea, _⟩ := A1.en.own i ys q
      refine ⟨.ref a, ea, ?_⟩
      refine toE lwS A1 P1 fun k env2 S2 y G2 m2 A2 r2 P2 => ?_
      cases q2 : env2[i]? with
      | none => simp only [q2] at P2; exact P2.elim
      | some sl =>
        cases sl with
        | none => simp only [q2] at P2; exact P2.elim
        | val _ => simp only [q2] at P2; exact P2.elim
        | exc a d w => simp only [q2] at P2; exact P2.elim
        | own xs =>
          cases k with
          | int k =>
            simp only [q2] at P2
            cases r2
            cases e : ixN xs.length k with
            | none => simp only [e] at P2; exact P2.elim
            | some j =>
              simp only [e] at P2
              obtain ⟨b, us, f1, f2, f3, _⟩ := A2.en.own i xs q2
              rw [ea] at f1
              cases f1
              obtain ⟨M, A3⟩ := A2.pokeOwn q2 ea (f3.set j (r1.mon m2))
              exact ⟨a, us, k, j, rfl, rfl, f2, by rw [← f3.length]; exact e, P2 σ _ M A3⟩
          | _ => simp only [q2] at P2; exact P2.elim
/-- o[k] = v, o a shared list -/
def dSetR (d di dv : Cd PV) : Cd Flw := bnd dv fun w => bnd d fun p => bnd di fun k => fun e s => match p, k with
  | .ref n, .int k => match s[n]? with
    | some (.lst xs) => match ixN xs.length k with
      | some j => .ok .next e (s.set n (.lst (xs.set j w)))
      | none => .bad
    | none => .bad
  | _, _ => .bad
theorem ms_setR {tpos : Pos} (hv : ME X z ei dv) (ho : ME X z o d) (hi : ME X z oi di) (hK : z.K = X.K := by rfl)
    (ha : ∀ v, assign (.Subscript o oi tpos) X.env v = (do
      let ov ← holding [v] (eval o X.env)
      let iv ← holding [v, ov] (eval oi X.env)
      standAt tpos
      holding [v, ov, iv] (setItem ov iv v)
      release [v, ov, iv] []) := by intro _; rfl)
    (hs : swapsWithSole [.Subscript o oi tpos] ei pos.line X.env = pure false := by rfl) (hw : swappedStores [.Subscript o oi tpos] ei X.env = pure none := by rfl)
    (h1 : (assignEach [.Subscript o oi tpos] X.env).map (·.2) = [assign (.Subscript o oi tpos) X.env] := by rfl) :
    MS X z (.Assign [.Subscript o oi tpos] ei pos) (dSetR d di dv) := by
  refine PS.imp (ps_asg hv (pg_sub ho hi set_list ha) hs hw h1) fun D σ H ⟨G, env, S, e, A, P⟩ => ?_
  subst e
  refine toE lwS A P fun w env1 S1 v G1 m1 A1 r1 P1 => toE lwS A1 P1 fun p env2 S2 u G2 m2 A2 r2 P2 => toE lwS A2 P2 fun k env3 S3 y G3 m3 A3 r3 P3 => ?_
  cases p with
  | ref n =>
    cases k with
    | int k =>
      cases r3
      cases q : S3[n]? with
      | none => simp only [q] at P3; exact P3.elim
      | some so =>
        cases so with
        | lst xs =>
          simp only [q] at P3
          cases e : ixN xs.length k with
          | none => simp only [e] at P3; exact P3.elim
          | some j =>
            simp only [e] at P3
            obtain ⟨a, us, rfl, hm, f2, f3⟩ := (r2.mon m3).sqR A3.st q
            obtain ⟨M, A4⟩ := A3.poke hm q (f3.set j (r1.mon (m2.trans m3)))
            exact ⟨a, us, k, j, rfl, rfl, f2, by rw [← f3.length]; exact e, P3 σ _ M A4⟩
    | _ => exact P3.elim
  | _ => cases k <;> exact P3.elim

/-! ### what a for walks -/
variable {tg : Expr}
theorem enum_list {K : PySem.W.Frag} {G : Wd} {a : Addr} {vs : List V} {ps : List PV} (r : RepL K G ps vs) (h : ∀ G1, Mon G G1 → SqL K G1.H a vs) : Enum K (Itl K a) G ps :=
  ⟨fun i G1 M hl => ⟨vs, h G1 M, by rw [← r.length]; exact hl⟩, fun i p G1 M su e => by
    obtain ⟨v, e1, r1⟩ := r.get e
    refine ⟨⟨vs, v, h G1 M, e1⟩, fun x H' y => ⟨G1, y.1.symm, .refl G1, su, ?_⟩⟩
    have := y.2 vs (h G1 M)
    rw [e1] at this
    cases this
    exact r1.mon M⟩
theorem enum_tup {K : PySem.W.Frag} {G : Wd} {a : Addr} {vs : List V} {ps : List PV} (r : RepL K G ps vs) (h : ∀ G1, Mon G G1 → SqT K G1.H a vs) : Enum K (Itt K a) G ps :=
  ⟨fun i G1 M hl => ⟨vs, h G1 M, by rw [← r.length]; exact hl⟩, fun i p G1 M su e => by
    obtain ⟨v, e1, r1⟩ := r.get e
    refine ⟨⟨vs, v, h G1 M, e1⟩, fun x H' y => ⟨G1, y.1.symm, .refl G1, su, ?_⟩⟩
    have := y.2 vs (h G1 M)
    rw [e1] at this
    cases this
    exact r1.mon M⟩
/-- a frozen list or tuple's items, wherever it is read -/
def itemsF : PV → Option (List PV)
  | .tup xs => some xs
  | .lst xs => some xs
  | .scr ns => some (ns.map PV.int)
  | _ => none
theorem itemsF_rep {K : PySem.W.Frag} {G : Wd} {p : PV} {xs : List PV} {v : V} (h : itemsF p = some xs) (r : Rep K G p v) :
    ∃ a vs, v = .ref a ∧ RepL K G xs vs ∧ ((∀ G1, Mon G G1 → SqL K G1.H a vs) ∨ (∀ G1, Mon G G1 → SqT K G1.H a vs)) := by
  cases p with
  | tup ys =>
    cases h
    cases r with
    | tup hh rr =>
      refine ⟨_, _, rfl, rr, .inr fun G1 M => ?_⟩
      rcases hh with ⟨h1, h2⟩ | hh
      · exact SqT.of (((M.fz _ h1).2).trans h2)
      · exact sqT_any hh
  | lst ys =>
    cases h
    cases r with
    | lst h1 h2 rr => exact ⟨_, _, rfl, rr, .inl fun G1 M => SqL.of (((M.fz _ h1).2).trans h2)⟩
  | scr ns =>
    cases h
    obtain ⟨a, rfl, q⟩ := r.scrM
    exact ⟨a, _, rfl, RepL.ints ns, .inl q⟩
  | _ => cases h
def dItems (d : Cd PV) : Cd (List PV) := bnd d fun p => lift (itemsF p)
theorem mi_val (he : ME X z e d) (hK : z.K = X.K := by rfl) : MI X z tg e (dItems d) := by
  refine PI.imp (PI.or (pi_list he) (pi_tup he)) fun σ H R ⟨G, env, S, e, A, P⟩ => ?_
  subst e
  unfold dItems bnd at P
  cases e : d env S with
  | bad => rw [e] at P; exact P.elim
  | raise c w e1 s1 =>
    rw [e] at P
    exact .inl ⟨G, env, S, rfl, A, by rw [e]; exact P⟩
  | ok p env1 S1 =>
    rw [e] at P
    unfold lift Out.bind at P
    cases q : itemsF p with
    | none => simp only [q] at P; exact P.elim
    | some xs =>
      simp only [q] at P
      by_cases ht : ∃ ys, p = .tup ys
      · obtain ⟨ys, rfl⟩ := ht
        cases q
        refine .inr ⟨G, env, S, rfl, A, ?_⟩
        rw [e]
        intro v G1 m1 A1 r1
        obtain ⟨a, vs, rfl, hq, rr⟩ := r1.sqT
        cases r1 with
        | tup hh rr' =>
          have hst : ∀ G2, Mon G1 G2 → SqT z.K G2.H a _ := fun G2 M => by
            rcases hh with ⟨h1, h2⟩ | hh
            · exact SqT.of (((M.fz _ h1).2).trans h2)
            · exact sqT_any hh
          refine ⟨a, rfl, ⟨_, by rw [← hK]; exact hst G1 (Mon.refl _)⟩, ?_⟩
          rw [← hK]
          exact P _ G1 m1 A1 (enum_tup rr' hst)
      · refine .inl ⟨G, env, S, rfl, A, ?_⟩
        rw [e]
        intro v G1 m1 A1 r1
        obtain ⟨a, vs, rfl, rr, hst⟩ := itemsF_rep q r1
        rcases hst with hst | hst
        · refine ⟨a, rfl, ⟨vs, by rw [← hK]; exact hst G1 (Mon.refl _)⟩, ?_⟩
          rw [← hK]
          exact P _ G1 m1 A1 (enum_list rr hst)
        · cases p with
          | tup ys => exact absurd ⟨ys, rfl⟩ ht
          | lst ys =>
            cases r1 with
            | lst h1 h2 rr2 =>
              cases q
              have hst : ∀ G2, Mon G1 G2 → SqL z.K G2.H a _ := fun G2 M => SqL.of (((M.fz _ h1).2).trans h2)
              refine ⟨a, rfl, ⟨_, by rw [← hK]; exact hst G1 (Mon.refl _)⟩, ?_⟩
              rw [← hK]
              exact P _ G1 m1 A1 (enum_list rr2 hst)
          | scr ns =>
            obtain ⟨a', ea, hst⟩ := r1.scrM
            cases ea
            · cases q
              refine ⟨a, rfl, ⟨_, by rw [← hK]; exact hst G1 (Mon.refl _)⟩, ?_⟩
              rw [← hK]
              exact P _ G1 m1 A1 (enum_list (RepL.ints ns) hst)
          | _ => cases q
theorem enum_range {K : PySem.W.Frag} {G : Wd} (lo : Int) (n : Nat) : Enum K (Itr lo n) G ((List.range n).map fun (i : Nat) => PV.int (lo + i)) :=
  ⟨fun i G1 M hl => (by simpa using hl : n ≤ i), fun i p G1 M su e => by
    have hi : i < n := by
      have := (List.getElem?_eq_some_iff.mp e).1
      simpa using this
    refine ⟨hi, fun x H' y => ⟨G1, y.1.symm, .refl G1, su, ?_⟩⟩
    rw [y.2]
    have : p = .int (lo + i) := by
      rw [List.getElem?_map, List.getElem?_range hi] at e
      exact (Option.some.inj e).symm
    rw [this]
    exact .int _⟩
def okR (i : Int) : Bool := decide (-1073741824 < i) && decide (i < 1073741824)
theorem okR_b {i : Int} (h : okR i = true) : -(2 ^ 62) ≤ i ∧ i < 2 ^ 62 := by
  unfold okR at h
  simp only [Bool.and_eq_true, decide_eq_true_eq] at h
  have e : (2 : Int) ^ 62 = 4611686018427387904 := by decide
  rw [e]
  omega
/-- range(j), range(i, j) -/
def rng1 (ps : List PV) : Option (List PV) := match ps with
  | [.int j] => if okR j = true then some ((List.range j.toNat).map fun (i : Nat) => PV.int i) else none
  | _ => none
def rng2 (ps : List PV) : Option (List PV) := match ps with
  | [.int i, .int j] => if (okR i && okR j) = true then some ((List.range (j - i).toNat).map fun (k : Nat) => PV.int (i + k)) else none
  | _ => none
def dRng1 (d : Cd (List PV)) : Cd (List PV) := bnd d fun ps => lift (rng1 ps)
def dRng2 (d : Cd (List PV)) : Cd (List PV) := bnd d fun ps => lift (rng2 ps)
theorem mi_range1 {a : Expr} (hm : X.mg "range" = none) (ha : MA X z [a] da) (hg : Gl X "range" := by rfl) (hs : starEach [a] X.env = [(false, eval a X.env)] := by rfl) : MI X z tg (.Call (.Name "range" p) [a] [] pos) (dRng1 da) := by
  refine PI.imp (pi_range1 hg hm ha hs) fun σ H R ⟨G, env, S, e, A, P⟩ => ?_
  subst e
  refine toA lwI A P fun ps env1 S1 vs G1 m1 A1 r1 P1 => ?_
  unfold lift at P1
  cases e : rng1 ps with
  | none => simp only [e] at P1; exact P1.elim
  | some qs =>
    simp only [e] at P1
    match ps, e with
    | [.int j], e =>
      obtain ⟨v, rfl, r2⟩ := repL1 r1
      cases r2
      simp only [rng1] at e
      by_cases hj : okR j = true
      · rw [if_pos hj] at e
        cases e
        obtain ⟨h1, h2⟩ := okR_b hj
        refine ⟨j, rfl, h1, h2, P1 _ G1 (Mon.refl _) A1 ?_⟩
        have := enum_range (K := z.K) (G := G1) 0 j.toNat
        simpa using this
      · rw [if_neg hj] at e
        cases e
theorem mi_range2 {a b : Expr} (hm : X.mg "range" = none) (ha : MA X z [a, b] da) (hg : Gl X "range" := by rfl) (hs : starEach [a, b] X.env = [(false, eval a X.env), (false, eval b X.env)] := by rfl) (hs2 : starEach [b] X.env = [(false, eval b X.env)] := by rfl) : MI X z tg (.Call (.Name "range" p) [a, b] [] pos) (dRng2 da) := by
  refine PI.imp (pi_range2 hg hm ha hs hs2) fun σ H R ⟨G, env, S, e, A, P⟩ => ?_
  subst e
  refine toA lwI A P fun ps env1 S1 vs G1 m1 A1 r1 P1 => ?_
  unfold lift at P1
  cases e : rng2 ps with
  | none => simp only [e] at P1; exact P1.elim
  | some qs =>
    simp only [e] at P1
    match ps, e with
    | [.int i, .int j], e =>
      obtain ⟨v, w, rfl, r2, r3⟩ := repL2 r1
      cases r2
      cases r3
      simp only [rng2] at e
      by_cases hj : (okR i && okR j) = true
      · rw [if_pos hj] at e
        cases e
        rw [Bool.and_eq_true] at hj
        obtain ⟨h1, h2⟩ := okR_b hj.1
        obtain ⟨h3, h4⟩ := okR_b hj.2
        exact ⟨i, j, rfl, ⟨h1, h2, h3, h4⟩, P1 _ G1 (Mon.refl _) A1 (enum_range i (j - i).toNat)⟩
      · rw [if_neg hj] at e
        cases e
/-- zip of two lists, of two tuples -/
def isT : PV → Bool
  | .tup _ => true
  | _ => false
def zip2 (ps : List PV) : Option (List PV) := match ps with
  | [p, q] => match itemsF p, itemsF q with
    | some xs, some ys => if isT p = isT q then some ((xs.zip ys).map fun c => PV.tup [c.1, c.2]) else none
    | _, _ => none
  | _ => none
def dZip (d : Cd (List PV)) : Cd (List PV) := bnd d fun ps => lift (zip2 ps)
theorem itemsF_L {K : PySem.W.Frag} {G : Wd} {p : PV} {xs : List PV} {v : V} (h : itemsF p = some xs) (hp : isT p = false) (r : Rep K G p v) : ∃ a vs, v = .ref a ∧ RepL K G xs vs ∧ ∀ G1, Mon G G1 → SqL K G1.H a vs := by
  cases p with
  | lst ys =>
    cases h
    cases r with
    | lst h1 h2 rr => exact ⟨_, _, rfl, rr, fun G1 M => SqL.of (((M.fz _ h1).2).trans h2)⟩
  | scr ns =>
    cases h
    obtain ⟨a, rfl, q⟩ := r.scrM
    exact ⟨a, _, rfl, RepL.ints ns, q⟩
  | tup ys => cases hp
  | _ => cases h
theorem itemsF_T {K : PySem.W.Frag} {G : Wd} {p : PV} {xs : List PV} {v : V} (h : itemsF p = some xs) (hp : isT p = true) (r : Rep K G p v) : ∃ a vs, v = .ref a ∧ RepL K G xs vs ∧ ∀ G1, Mon G G1 → SqT K G1.H a vs := by
  cases p with
  | tup ys =>
    cases h
    cases r with
    | tup hh rr =>
      refine ⟨_, _, rfl, rr, fun G1 M => ?_⟩
      rcases hh with ⟨h1, h2⟩ | hh
      · exact SqT.of (((M.fz _ h1).2).trans h2)
      · exact sqT_any hh
  | lst ys => cases hp
  | scr ns => cases hp
  | _ => cases h
theorem zip_get {α β : Type} : ∀ {xs : List α} {ys : List β} {i : Nat} {c : α × β}, (xs.zip ys)[i]? = some c → xs[i]? = some c.1 ∧ ys[i]? = some c.2
  | [], _, _, _, h => by simp at h
  | _ :: _, [], _, _, h => by simp at h
  | x :: xs, y :: ys, 0, c, h => by
    simp at h
    subst h
    exact ⟨rfl, rfl⟩
  | x :: xs, y :: ys, i + 1, c, h => by
    have := zip_get (xs := xs) (ys := ys) (i := i) (c := c) (by simpa using h)
    simpa using this
theorem pair_new {K : PySem.W.Frag} {G1 : Wd} {T : Addr} {x y : V} {p q : PV} (su : Sure G1) (hn : G1.H T = none) (r1 : Rep K G1 p x) (r2 : Rep K G1 q y) : Ext G1 (G1.frozen T (.tup [x, y])) ∧ Sure (G1.frozen T (.tup [x, y])) ∧ Rep K (G1.frozen T (.tup [x, y])) (.tup [p, q]) (.ref T) := by
  have M : Mon G1 (G1.frozen T (.tup [x, y])) := (Ext.frozen hn).mon su
  exact ⟨Ext.frozen hn, sure_frozen su hn, .tup (.inl ⟨.inr rfl, upd_same⟩) (.cons (r1.mon M) (.cons (r2.mon M) .nil))⟩
theorem enum_zipL {K : PySem.W.Frag} {G : Wd} {a b : Addr} {vs ws : List V} {xs ys : List PV} (r1 : RepL K G xs vs) (r2 : RepL K G ys ws) (h1 : ∀ G1, Mon G G1 → SqL K G1.H a vs) (h2 : ∀ G1, Mon G G1 → SqL K G1.H b ws) :
    Enum K (Itz K a b) G ((xs.zip ys).map fun c => PV.tup [c.1, c.2]) :=
  ⟨fun i G1 M hl => ⟨vs, ws, h1 G1 M, h2 G1 M, by
    rw [List.length_map, List.length_zip] at hl
    rw [← r1.length, ← r2.length]
    omega⟩, fun i p G1 M su e => by
    rw [List.getElem?_map] at e
    cases q : (xs.zip ys)[i]? with
    | none => rw [q] at e; cases e
    | some c =>
      rw [q] at e
      cases e
      obtain ⟨e1, e2⟩ := zip_get q
      obtain ⟨v, f1, g1⟩ := r1.get e1
      obtain ⟨w, f2, g2⟩ := r2.get e2
      refine ⟨⟨vs, ws, v, w, h1 G1 M, h2 G1 M, f1, f2⟩, fun x H' y => ?_⟩
      obtain ⟨T, x1, y1, rfl, hn, rfl, k1, k2⟩ := y
      have := k1 vs (h1 G1 M)
      rw [f1] at this
      cases this
      have := k2 ws (h2 G1 M)
      rw [f2] at this
      cases this
      obtain ⟨z1, z2, z3⟩ := pair_new su hn (g1.mon M) (g2.mon M)
      exact ⟨_, rfl, z1, z2, z3⟩⟩
theorem enum_zipT {K : PySem.W.Frag} {G : Wd} {a b : Addr} {vs ws : List V} {xs ys : List PV} (r1 : RepL K G xs vs) (r2 : RepL K G ys ws) (h1 : ∀ G1, Mon G G1 → SqT K G1.H a vs) (h2 : ∀ G1, Mon G G1 → SqT K G1.H b ws) :
    Enum K (RZ.ItzT K a b) G ((xs.zip ys).map fun c => PV.tup [c.1, c.2]) :=
  ⟨fun i G1 M hl => ⟨vs, ws, h1 G1 M, h2 G1 M, by
    rw [List.length_map, List.length_zip] at hl
    rw [← r1.length, ← r2.length]
    omega⟩, fun i p G1 M su e => by
    rw [List.getElem?_map] at e
    cases q : (xs.zip ys)[i]? with
    | none => rw [q] at e; cases e
    | some c =>
      rw [q] at e
      cases e
      obtain ⟨e1, e2⟩ := zip_get q
      obtain ⟨v, f1, g1⟩ := r1.get e1
      obtain ⟨w, f2, g2⟩ := r2.get e2
      refine ⟨⟨vs, ws, v, w, h1 G1 M, h2 G1 M, f1, f2⟩, fun x H' y => ?_⟩
      obtain ⟨T, x1, y1, rfl, hn, rfl, k1, k2⟩ := y
      have := k1 vs (h1 G1 M)
      rw [f1] at this
      cases this
      have := k2 ws (h2 G1 M)
      rw [f2] at this
      cases this
      obtain ⟨z1, z2, z3⟩ := pair_new su hn (g1.mon M) (g2.mon M)
      exact ⟨_, rfl, z1, z2, z3⟩⟩
theorem mi_zip {a b : Expr} {elts : List Expr} {kk : Nat} {tpos : Pos} (hm : X.mg "zip" = none) (ha : MA X z [a, b] da) (hK : z.K = X.K := by rfl) (hg : Gl X "zip" := by rfl) (hs : starEach [a, b] X.env = (false, eval a X.env) :: starEach [b] X.env := by rfl) (hpl : (backTo pos (starEach [b] X.env)).any (·.1) = false := by rfl) :
    MI X z (.Tuple elts kk tpos) (.Call (.Name "zip" p) [a, b] [] pos) (dZip da) := by
  refine PI.imp (RZ.pi_zipA hg hm ha hs hpl) fun σ H R ⟨G, env, S, e, A, P⟩ => ?_
  subst e
  refine toA lwI A P fun ps env1 S1 vs G1 m1 A1 r1 P1 => ?_
  unfold lift at P1
  cases e : zip2 ps with
  | none => simp only [e] at P1; exact P1.elim
  | some qs =>
    simp only [e] at P1
    match ps, e with
    | [p, q], e =>
      obtain ⟨v, w, rfl, r2, r3⟩ := repL2 r1
      simp only [zip2] at e
      cases e1 : itemsF p with
      | none => simp only [e1] at e; cases e
      | some xs =>
        cases e2 : itemsF q with
        | none => simp only [e1, e2] at e; cases e
        | some ys =>
          simp only [e1, e2] at e
          by_cases hT : isT p = isT q
          · rw [if_pos hT] at e
            cases e
            rw [← hK]
            cases hp : isT p with
            | false =>
              rw [hp] at hT
              obtain ⟨a1, us, rfl, s1, k1⟩ := itemsF_L e1 hp r2
              obtain ⟨a2, ts, rfl, s2, k2⟩ := itemsF_L e2 hT.symm r3
              exact ⟨a1, a2, us, ts, rfl, .inl ⟨k1 G1 (Mon.refl _), k2 G1 (Mon.refl _), P1 _ G1 (Mon.refl _) A1 (enum_zipL s1 s2 k1 k2)⟩⟩
            | true =>
              rw [hp] at hT
              obtain ⟨a1, us, rfl, s1, k1⟩ := itemsF_T e1 hp r2
              obtain ⟨a2, ts, rfl, s2, k2⟩ := itemsF_T e2 hT.symm r3
              exact ⟨a1, a2, us, ts, rfl, .inr ⟨k1 G1 (Mon.refl _), k2 G1 (Mon.refl _), P1 _ G1 (Mon.refl _) A1 (enum_zipT s1 s2 k1 k2)⟩⟩
          · rw [if_neg hT] at e
            cases e
/-- enumerate of a list -/
def enumL (ps : List PV) : List PV := (ps.zipIdx).map fun c => PV.tup [.int c.2, c.1]
theorem enum_enum {K : PySem.W.Frag} {G : Wd} {a : Addr} {vs : List V} {xs : List PV} (r1 : RepL K G xs vs) (h1 : ∀ G1, Mon G G1 → SqL K G1.H a vs) : Enum K (Ite K a) G (enumL xs) :=
  ⟨fun i G1 M hl => ⟨vs, h1 G1 M, by
    unfold enumL at hl
    rw [List.length_map, List.length_zipIdx] at hl
    rw [← r1.length]
    exact hl⟩, fun i p G1 M su e => by
    unfold enumL at e
    rw [List.getElem?_map, List.getElem?_zipIdx] at e
    cases q : xs[i]? with
    | none => rw [q] at e; cases e
    | some c =>
      rw [q] at e
      simp only [Option.map_some, Nat.zero_add] at e
      cases e
      obtain ⟨v, f1, g1⟩ := r1.get q
      refine ⟨⟨vs, v, h1 G1 M, f1⟩, fun x H' y => ?_⟩
      obtain ⟨T, x1, rfl, hn, rfl, k1⟩ := y
      have := k1 vs (h1 G1 M)
      rw [f1] at this
      cases this
      obtain ⟨z1, z2, z3⟩ := pair_new su hn (.int _) (g1.mon M)
      exact ⟨_, rfl, z1, z2, z3⟩⟩
end
end FS

set_option Elab.async false
set_option linter.all false
set_option maxRecDepth 100000
/-! FsComp: list comprehensions. -/
namespace FS
open PySem PySem.Spec L2

/-! ### the frame's own things put aside -/
/-- the world as it stands, without what the frame alone holds -/
noncomputable def Wd.less (G : Wd) (env : Env) (σ : St) : Wd := ⟨G.m, G.fz, open Classical in fun a => if ∃ i, IsOwn env i ∧ σ[i]? = some (some (.ref a)) then none else G.H a⟩
section
variable {K : PySem.W.Frag} {G0 G G2 : Wd} {env env2 : Env} {S S2 : Stt} {σ σ2 : St}
theorem less_of {a : Addr} {o : HO} (h : (G.less env σ).H a = some o) : G.H a = some o ∧ ¬ ∃ i, IsOwn env i ∧ σ[i]? = some (some (.ref a)) := by
  unfold Wd.less at h
  simp only at h
  split at h
  · cases h
  · exact ⟨h, by assumption⟩
theorem less_none {a : Addr} (h : (G.less env σ).H a = none) : G.H a = none ∨ ∃ i, IsOwn env i ∧ σ[i]? = some (some (.ref a)) := by
  unfold Wd.less at h
  simp only at h
  split at h
  · exact .inr (by assumption)
  · exact .inl h
theorem less_same {a : Addr} (h : ¬ ∃ i, IsOwn env i ∧ σ[i]? = some (some (.ref a))) : (G.less env σ).H a = G.H a := by
  unfold Wd.less
  simp only
  rw [if_neg h]
theorem At.aside (A : At K G0 G S env σ) : At K (G.less env σ) G S env σ := by
  refine ⟨A.st, A.en, ⟨⟨[], by show G.m = G.m ++ []; simp⟩, fun a h => .inl h, fun a h => h, fun a h => .inl h, fun a o h _ => (less_of h).1, fun a h => ?_⟩, fun i a ho e => ?_, A.sure⟩
  · by_cases q : ∃ i, IsOwn env i ∧ σ[i]? = some (some (.ref a))
    · unfold Wd.less
      simp only
      rw [if_pos q]
    · rw [less_same q]
      exact h
  · unfold Wd.less
    simp only
    rw [if_pos ⟨i, ho, e⟩]
theorem At.back (A : At K G0 G S env σ) (B : At K (G.less env σ) G2 S2 env2 σ2) : At K G0 G2 S2 env2 σ2 := by
  have up : ∀ a, (G.less env σ).H a = none → G0.H a = none := fun a h => by
    rcases less_none h with h | ⟨i, ho, e⟩
    · exact A.ent.there a h
    · exact A.mine i a ho e
  refine ⟨B.st, B.en, ⟨?_, fun a h => ?_, fun a h => B.ent.fz a (A.ent.fz a h), fun a h => ?_, fun a o h hm => ?_, fun a h => up a (B.ent.there a h)⟩, fun i a ho e => up a (B.mine i a ho e), B.sure⟩
  · obtain ⟨r, e⟩ := A.ent.pre
    obtain ⟨r', e'⟩ := B.ent.pre
    exact ⟨r ++ r', by rw [e']; show G.m ++ r' = _; rw [e, List.append_assoc]⟩
  · rcases B.ent.new a h with h | h
    · exact A.ent.new a h
    · exact .inr (up a h)
  · rcases B.ent.fzn a h with h | h
    · exact A.ent.fzn a h
    · exact .inr (up a h)
  · have h1 := A.ent.keep a o h hm
    have h2 : ¬ ∃ i, IsOwn env i ∧ σ[i]? = some (some (.ref a)) := fun ⟨i, ho, e⟩ => by
      have := A.mine i a ho e
      rw [h] at this; cases this
    refine B.ent.keep a o (by rw [less_same h2]; exact h1) fun h3 => ?_
    rcases A.ent.new a h3 with q | q
    · exact hm q
    · rw [h] at q; cases q
end

/-! ### the block's own names -/
def wipeE (env : Env) : List Nat → Env
  | [] => env
  | v :: vs => (wipeE env vs).set v .none
def keepS : Option Slot → Slot
  | some (.val p) => .val p
  | _ => .none
def restE (e1 e2 : Env) : List Nat → Env
  | [] => e2
  | v :: vs => (restE e1 e2 vs).set v (keepS e1[v]?)
section
variable {z : Zx} {G : Wd} {env e1 e2 : Env} {S : Stt} {σ : St}
theorem wipe_at (A : At z.K z.G0 G S env σ) : ∀ vs : List Nat, At z.K z.G0 G S (wipeE env vs) (wipe σ vs)
  | [] => A
  | v :: vs => by
    unfold wipeE wipe
    exact (wipe_at A vs).setSlot (.inl rfl)
theorem wipe_get {σ : St} {i : Nat} : ∀ vs : List Nat, (wipe σ vs)[i]? = if i ∈ vs then (if i < σ.length then some none else none) else σ[i]?
  | [] => by simp [wipe]
  | v :: vs => by
    unfold wipe
    rw [getElem?_set', wipe_length, wipe_get vs]
    by_cases h : v = i
    · subst h
      simp
    · rw [if_neg h]
      have : i ≠ v := fun e => h e.symm
      simp [this]
theorem wipe_id {σ : St} (vs : List Nat) : wipe (wipe σ vs) vs = wipe σ vs := by
  apply List.ext_getElem?
  intro i
  rw [wipe_get, wipe_get, wipe_length]
  by_cases h : i ∈ vs
  · rw [if_pos h, if_pos h]
  · rw [if_neg h, if_neg h]
theorem restE_length (e1 e2 : Env) : ∀ vs : List Nat, (restE e1 e2 vs).length = e2.length
  | [] => rfl
  | v :: vs => by
    unfold restE
    rw [List.length_set, restE_length e1 e2 vs]
theorem restE_get {e1 e2 : Env} {i : Nat} : ∀ vs : List Nat, (restE e1 e2 vs)[i]? = if i ∈ vs then (if i < e2.length then some (keepS e1[i]?) else none) else e2[i]?
  | [] => by simp [restE]
  | v :: vs => by
    unfold restE
    rw [getElem?_set', restE_length, restE_get vs]
    by_cases h : v = i
    · subst h
      simp
    · rw [if_neg h]
      have : i ≠ v := fun e => h e.symm
      simp [this]
theorem keepS_own {o : Option Slot} {xs : List PV} : keepS o ≠ .own xs := by
  intro h
  cases o with
  | none => cases h
  | some s => cases s <;> cases h
theorem keepS_exc {o : Option Slot} {a d : Addr} {w : PV} : keepS o ≠ .exc a d w := by
  intro h
  cases o with
  | none => cases h
  | some s => cases s <;> cases h
theorem keepS_val {o : Option Slot} {p : PV} (h : keepS o = .val p) : o = some (.val p) := by
  cases o with
  | none => cases h
  | some s =>
    cases s with
    | val q => cases h; rfl
    | none => cases h
    | own xs => cases h
    | exc a d w => cases h
theorem rest_own {σ : St} {vs : List Nat} {i : Nat} {xs : List PV} {a : Addr} (h : (restE e1 e2 vs)[i]? = some (.own xs)) : i ∉ vs ∧ e2[i]? = some (.own xs) := by
  rw [restE_get] at h
  by_cases hi : i ∈ vs
  · rw [if_pos hi] at h
    split at h
    · exact absurd (Option.some.inj h) keepS_own
    · cases h
  · rw [if_neg hi] at h
    exact ⟨hi, h⟩
/-- behind the block the names of the frame are as they were -/
theorem rest_at {G1 : Wd} {S1 : Stt} {vs : List Nat} (A1 : At z.K z.G0 G1 S1 e1 σ) (M : Mon G1 G) (A : At z.K z.G0 G S e2 (wipe σ vs)) : At z.K z.G0 G S (restE e1 e2 vs) σ := by
  have ow : ∀ (i : Nat) (xs : List PV), (restE e1 e2 vs)[i]? = some (.own xs) → e2[i]? = some (.own xs) ∧ (wipe σ vs)[i]? = σ[i]? := fun i xs h => by
    obtain ⟨h1, h2⟩ := rest_own (σ := σ) (a := 0) h
    exact ⟨h2, by rw [wipe_get, if_neg h1]⟩
  refine ⟨A.st, ⟨by rw [restE_length, A.en.len, wipe_length], fun i p h => ?_, fun i xs h => ?_, fun i b d w h => ?_, fun i j a h1 h2 q1 q2 => ?_⟩, A.ent, fun i a h q => ?_, A.sure⟩
  · rw [restE_get] at h
    by_cases hi : i ∈ vs
    · rw [if_pos hi] at h
      split at h
      · obtain ⟨v, q1, q2⟩ := A1.en.val i p (keepS_val (Option.some.inj h))
        exact ⟨v, q1, q2.mon M⟩
      · cases h
    · rw [if_neg hi] at h
      obtain ⟨v, q1, q2⟩ := A.en.val i p h
      rw [wipe_get, if_neg hi] at q1
      exact ⟨v, q1, q2⟩
  · obtain ⟨h1, h2⟩ := ow i xs h
    obtain ⟨a, ws, q1, q⟩ := A.en.own i xs h1
    rw [h2] at q1
    exact ⟨a, ws, q1, q⟩
  · rw [restE_get] at h
    by_cases hi : i ∈ vs
    · rw [if_pos hi] at h
      split at h
      · exact absurd (Option.some.inj h) keepS_exc
      · cases h
    · rw [if_neg hi] at h
      obtain ⟨q1, q2⟩ := A.en.exc i b d w h
      rw [wipe_get, if_neg hi] at q1
      exact ⟨q1, q2⟩
  · obtain ⟨xs, h1⟩ := h1
    obtain ⟨ys, h2⟩ := h2
    obtain ⟨h1, f1⟩ := ow i xs h1
    obtain ⟨h2, f2⟩ := ow j ys h2
    exact A.en.dis i j a ⟨xs, h1⟩ ⟨ys, h2⟩ (f1.trans q1) (f2.trans q2)
  · obtain ⟨xs, h⟩ := h
    obtain ⟨h, f⟩ := ow i xs h
    exact A.mine i a ⟨xs, h⟩ (f.trans q)
/-- a list that nobody else holds, changed -/
theorem At.pokeAlone {a : Addr} {vs vs' : List V} (A : At z.K z.G0 G S env σ) (al : Alone z G env σ a vs) : Mon G ⟨G.m, G.fz, upd G.H a (.lst vs')⟩ ∧ At z.K z.G0 ⟨G.m, G.fz, upd G.H a (.lst vs')⟩ S env σ ∧ Alone z ⟨G.m, G.fz, upd G.H a (.lst vs')⟩ env σ a vs' := by
  have M : Mon G ⟨G.m, G.fz, upd G.H a (.lst vs')⟩ := ⟨⟨[], by simp⟩, fun c hc => ⟨hc, upd_ne (fun z => al.nf (by rw [← z]; exact hc))⟩⟩
  refine ⟨M, ⟨⟨A.st.len, A.st.nd, A.st.nf, fun j c o h1 h2 => ?_⟩, A.en.over M fun j c ho e => ?_, ⟨A.ent.pre, A.ent.new, A.ent.fz, A.ent.fzn, fun c o h1 h2 => ?_, fun c hc => ?_⟩, A.mine, fun c hc => ?_⟩, ⟨upd_same, al.nf, al.nm, al.n0, al.no⟩⟩
  · have hne : c ≠ a := fun z => al.nm (by rw [← z]; exact List.mem_of_getElem? h1)
    show RepO z.K _ o (upd G.H a (.lst vs') c)
    rw [upd_ne hne]
    exact (A.st.ob j c o h1 h2).mono M
  · have hne : c ≠ a := fun z => al.no j ho (by rw [e, z])
    obtain ⟨ys, ho⟩ := ho
    obtain ⟨b, ws, q1, q2, _, q4, q5⟩ := A.en.own j ys ho
    rw [e] at q1
    cases q1
    exact ⟨upd_ne hne, q4, q5⟩
  · have hne : c ≠ a := fun z => by rw [z, al.n0] at h1; cases h1
    exact (upd_ne hne).trans (A.ent.keep c o h1 h2)
  · have hne : c ≠ a := fun z => by
      rw [z] at hc
      have q : upd G.H a (.lst vs') a = none := hc
      rw [upd_same] at q; cases q
    exact A.ent.there c ((upd_ne hne).symm.trans hc)
  · have hne : c ≠ a := fun z => al.nf (by rw [← z]; exact hc)
    obtain ⟨o, q⟩ := A.sure c hc
    exact ⟨o, (upd_ne hne).trans q⟩
end

/-! ### the judgements of a block -/
abbrev zc (z : Zx) (G0 : Wd) : Zx := ⟨z.K, z.mg, G0, fun _ _ _ _ => False⟩
def REb (z : Zx) (d : Cd PV) : TE := fun σ H Q => ∃ G0, RE (zc z G0) d σ H Q
def RTb (z : Zx) (d : Cd Bool) : TT := fun σ H Q => ∃ G0, RT (zc z G0) d σ H Q
section
variable {X : Cx} {z : Zx} {pos p apos cpos : Pos}
abbrev MEb (X : Cx) (z : Zx) (e : Expr) (d : Cd PV) : Prop := ∀ G0, ME X (zc z G0) e d
def MTsb (X : Cx) (z : Zx) (e : List Expr) (d : Cd Bool) : Prop := PTs X e (RTb z d)
theorem mts_nil : MTsb X z [] (ret true) := ⟨fun pins s σ H Q I h => by
  obtain ⟨G0, G, env, S, e, A, P⟩ := h
  subst e
  exact pts_nil.run pins s σ _ Q I (P G (Mon.refl _) A)⟩
theorem mts_one {c : Expr} {t : Cd Bool} (h : ∀ G0, MT X (zc z G0) c t) : MTsb X z [c] t := ⟨fun pins s σ H Q I q => by
  obtain ⟨G0, q⟩ := q
  exact (pts_one (h G0)).run pins s σ H Q I q⟩
/-- a target of a block: names of the block alone -/
def PostGc (z : Zx) (G : Wd) (own : List Nat) (σ : St) (Q : St → Hp → Prop) : Out Unit → Prop
  | .ok _ env S => ∀ (σ' : St) (G' : Wd), Mon G G' → At z.K z.G0 G' S env σ' → wipe σ' own = wipe σ own → Q σ' G'.H
  | .raise c w env S => ∀ σ', PRaise z G c w env S σ'
  | .bad => False
def RGc (z : Zx) (own : List Nat) (d : PV → Cd Unit) : TG := fun v σ H Q => ∃ G0 G env S p, G.H = H ∧ At z.K G0 G S env σ ∧ Rep z.K G p v ∧ PostGc (zc z G0) G own σ Q (d p env S)
def RGcs (z : Zx) (own : List Nat) (d : List PV → Cd Unit) : TGs := fun vs σ H Q => ∃ G0 G env S ps, G.H = H ∧ At z.K G0 G S env σ ∧ RepL z.K G ps vs ∧ PostGc (zc z G0) G own σ Q (d ps env S)
abbrev MGc (X : Cx) (z : Zx) (own : List Nat) (e : Expr) (d : PV → Cd Unit) : Prop := PG X e (RGc z own d)
abbrev MGcs (X : Cx) (z : Zx) (own : List Nat) (e : List Expr) (d : List PV → Cd Unit) : Prop := PGs X e (RGcs z own d)
theorem PostGc.later {G G1 : Wd} {own : List Nat} {σ : St} {Q : St → Hp → Prop} {o : Out Unit} (h : PostGc z G own σ Q o) (M : Mon G G1) : PostGc z G1 own σ Q o := by
  cases o with
  | ok p env S => exact fun σ' G' m a => h σ' G' (M.trans m) a
  | raise c w env S => exact fun σ' => (h σ').later M
  | bad => exact h
theorem wipe_set {σ : St} {i : Nat} {v : Option V} {own : List Nat} (h : i ∈ own) : wipe (σ.set i v) own = wipe σ own := by
  apply List.ext_getElem?
  intro j
  rw [wipe_get, wipe_get, List.length_set]
  by_cases hj : j ∈ own
  · rw [if_pos hj, if_pos hj]
  · rw [if_neg hj, if_neg hj, List.getElem?_set_ne (fun e => hj (by rw [← e]; exact h))]
theorem mgc_name (i : Nat) {x : Str} {own : List Nat} (hN : X.N.Nodup) (ho : i ∈ own := by decide) (hi : X.N[i]? = some x := by rfl) (hx : Loc X.env.scope x := by first | exact Or.inl rfl | exact Or.inr rfl) (hf : X.fn x = true ∨ X.env.scope.names.lookup x = some .local := by first | exact .inl rfl | exact .inr rfl | assumption) :
    MGc X z own (.Name x pos) (gSet i) := (pg_name hN hi hx hf).imp fun v σ H Q ⟨G0, G, env, S, p, e, A, r, P⟩ => by
  subst e
  exact P _ G (Mon.refl G) (At.setVal (z := zc z G0) A r) (wipe_set ho)
theorem mgcs_nil {own : List Nat} : MGcs X z own [] gsNil := pgs_nil.imp fun vs σ H Q ⟨G0, G, env, S, ps, e, A, r, P⟩ => by
  subst e
  cases r with
  | nil => exact ⟨rfl, P σ G (Mon.refl G) A rfl⟩
  | cons _ _ => exact P.elim
theorem toGc {β : Type} {G0 : Wd} {F : Wd → Out β → Prop} {G : Wd} {env : Env} {S : Stt} {σ : St} {own : List Nat} (L : Lw (zc z G0) F) {d : PV → Cd Unit} {p : PV} {v : V} {k : Unit → Cd β} {R : St → Hp → Prop} (A : At z.K G0 G S env σ) (r : Rep z.K G p v) (P : F G (bnd (d p) k env S))
    (h : ∀ env1 S1 σ1 G1, Mon G G1 → At z.K G0 G1 S1 env1 σ1 → wipe σ1 own = wipe σ own → F G1 (k () env1 S1) → R σ1 G1.H) : RGc z own d v σ G.H R := by
  refine ⟨G0, G, env, S, p, rfl, A, r, ?_⟩
  unfold bnd at P
  cases e : d p env S with
  | ok u env1 S1 =>
    rw [e] at P
    exact fun σ1 G1 m a w => h env1 S1 σ1 G1 m a w (L.later _ _ _ P m)
  | raise c w env1 S1 =>
    rw [e] at P
    exact L.rais _ _ _ _ _ P
  | bad =>
    rw [e] at P
    exact (L.bad _ P).elim
theorem mgcs_cons {e : Expr} {es : List Expr} {own : List Nat} {g : PV → Cd Unit} {gs : List PV → Cd Unit} (h : MGc X z own e g) (hr : MGcs X z own es gs) (hs : (assignEach (e :: es) X.env).map (·.2) = assign e X.env :: (assignEach es X.env).map (·.2) := by rfl) : MGcs X z own (e :: es) (gsCons g gs) :=
  (pgs_cons h hr hs).imp fun vs σ H Q ⟨G0, G, env, S, ps, e, A, r, P⟩ => by
    subst e
    cases r with
    | nil => exact P.elim
    | cons r0 rr =>
      have L : Lw (zc z G0) (fun G o => PostGc (zc z G0) G own σ Q o) := ⟨fun _ _ _ h m => h.later m, fun _ _ _ _ _ h => h, fun _ h => h⟩
      refine ⟨_, _, rfl, toGc L A r0 P fun env1 S1 σ1 G1 m1 A1 w1 P1 => ⟨G0, G1, env1, S1, _, rfl, A1, rr.mon m1, ?_⟩⟩
      cases e : gs _ env1 S1 with
      | ok u e2 s2 =>
        rw [e] at P1
        exact fun σ' G' m a w => P1 σ' G' m a (w.trans w1)
      | raise c w e2 s2 =>
        rw [e] at P1
        exact P1
      | bad =>
        rw [e] at P1
        exact P1
theorem mgc_tup {es : List Expr} {k : Nat} {own : List Nat} {gs : List PV → Cd Unit} {n : Nat} (h : MGcs X z own es gs) (hK : z.K = X.K := by rfl) (hc : X.calm = true := by rfl) (hn : (assignEach es X.env).length = n := by rfl) (hst : (assignEach es X.env).findIdx? (·.1) = none := by rfl) : MGc X z own (.Tuple es k pos) (gTupD n gs) :=
  (pg_tup hc h hn hst).imp fun v σ H Q ⟨G0, G, env, S, p, e, A, r, P⟩ => by
    subst e
    cases p with
    | tup ps =>
      obtain ⟨a, vs, rfl, q, rr⟩ := r.sqT
      unfold gTupD at P
      by_cases hl : ps.length = n
      · simp only [if_pos hl] at P
        exact ⟨a, vs, rfl, by rw [← hK]; exact q, by rw [← rr.length]; exact hl, G0, G, env, S, ps, rfl, A, rr, P⟩
      · simp only [if_neg hl] at P
        exact P.elim
    | _ => exact P.elim

/-! ### the comprehension -/
def compL (own : List Nat) (g : PV → Cd Unit) (t : Cd Bool) (d : Cd PV) : List PV → List PV → Cd (List PV)
  | [], acc => ret acc
  | p :: ps, acc => bnd (g p) fun _ => bnd t fun b => if b = true then bnd d fun w => if acc.length < sizeLine then fun e s => compL own g t d ps (acc ++ [w]) (wipeE e own) s else fun _ _ => .bad
    else fun e s => compL own g t d ps acc (wipeE e own) s
def dComp (items : Cd (List PV)) (own : List Nat) (g : PV → Cd Unit) (t : Cd Bool) (d : Cd PV) : Cd (List PV) := bnd items fun ps => fun e s => match compL own g t d ps [] (wipeE e own) s with
  | .ok xs e2 s2 => .ok xs (restE e e2 own) s2
  | _ => .bad
/-- the block's end, as the frame sees it -/
def PP (z : Zx) (σ : St) (Q : VK) (env1 : Env) (own : List Nat) (G : Wd) : Out (List PV) → Prop
  | .ok xs e2 s2 => PostF z G σ Q (.ok xs (restE env1 e2 own) s2)
  | _ => False
theorem lwPP {σ : St} {Q : VK} {env1 : Env} {own : List Nat} {z' : Zx} : Lw z' (fun G o => PP z σ Q env1 own G o) := ⟨fun G G1 o h m => by
    cases o with
    | ok xs e2 s2 => exact PostF.later (z := z) (o := .ok xs (restE env1 e2 own) s2) h m
    | raise => exact h
    | bad => exact h, fun _ _ _ _ _ h => h.elim, fun _ h => h⟩
theorem comp_rd {items : Cd (List PV)} {own : List Nat} {g : PV → Cd Unit} {t : Cd Bool} {d : Cd PV} {σ : St} {H : Hp} {Q : VK} (h : RF z (dComp items own g t d) σ H Q) :
    tLc (RI z items) (RGc z own g) (RTb z t) (REb z d) own σ H Q := by
  obtain ⟨G, env, S, e, A, P⟩ := h
  subst e
  refine toI lwF A P fun ps env1 S1 J G1 m1 A1 en P1 => ?_
  intro D hD
  have A0 := wipe_at A1 own
  have start : PP z σ Q env1 own G1 (compL own g t d ps [] (wipeE env1 own) S1) := by
    cases e : compL own g t d ps [] (wipeE env1 own) S1 with
    | ok xs e2 s2 => simp only [e] at P1; exact P1
    | raise c w e2 s2 => simp only [e] at P1; exact P1.elim
    | bad => simp only [e] at P1; exact P1.elim
  refine ⟨fun i m H => m = ps.length - i ∧ i ≤ ps.length ∧ ∃ G e s acc vs, G.H = H ∧ Mon G1 G ∧ At z.K z.G0 G s e (wipe σ own) ∧ Alone z G e (wipe σ own) D vs ∧ RepL z.K G acc vs ∧ PP z σ Q env1 own G (compL own g t d (ps.drop i) acc e s), ⟨ps.length, by simp, Nat.zero_le _, G1.fresh D (.lst []), _, _, [], [], rfl, (Ext.fresh hD).mon A1.sure, A0.fresh hD, A0.alone (vs := []) hD, .nil, ?_⟩, ?_⟩
  · exact (lwPP (z := z) (z' := z)).later _ _ _ (by simpa using start) ((Ext.fresh hD).mon A1.sure)
  · rintro i m H ⟨rfl, hi, G, e, s, acc, vs, rfl, M, A, al, ra, PQ⟩
    by_cases hl : i < ps.length
    · have ed : ps.drop i = ps[i] :: ps.drop (i + 1) := List.drop_eq_getElem_cons hl
      rw [ed] at PQ
      obtain ⟨q1, q2⟩ := en.go i ps[i] G M A.sure (by simp [hl])
      refine .inr ⟨q1, fun H' => ∃ G e s acc vs, G.H = H' ∧ Mon G1 G ∧ At z.K z.G0 G s e (wipe σ own) ∧ Alone z G e (wipe σ own) D vs ∧ RepL z.K G acc vs ∧ PP z σ Q env1 own G (compL own g t d (ps.drop (i + 1)) acc e s), fun H' h => ⟨ps.length - (i + 1), by omega, rfl, hl, h⟩, fun x H' y => ?_⟩
      obtain ⟨G2, rfl, x2, s2, r2⟩ := q2 x H' y
      have m2 := x2.mon A.sure
      have A2 := A.ext x2 s2
      have al2 : Alone z G2 e (wipe σ own) D vs := ⟨x2.keep _ _ al.at_, fun h => (x2.fzn D h).elim al.nf (fun h => by rw [al.at_] at h; cases h), by rw [x2.m]; exact al.nm, al.n0, al.no⟩
      have hnD : ¬ ∃ i, IsOwn e i ∧ (wipe σ own)[i]? = some (some (.ref D)) := fun ⟨i, ho, q⟩ => al2.no i ho q
      have hD0 : (G2.less e (wipe σ own)).H D = some (.lst vs) := (less_same hnD).trans al2.at_
      -- D stands while the block runs
      have keepD : ∀ {G3 : Wd} {S3 : Stt} {e3 : Env} {σ3 : St}, At z.K (G2.less e (wipe σ own)) G3 S3 e3 σ3 → Alone z G3 e3 σ3 D vs := fun {G3 S3 e3 σ3} B =>
        ⟨B.ent.keep D _ hD0 al2.nm, fun h => (B.ent.fzn D h).elim al2.nf (fun h => by rw [hD0] at h; cases h), fun h => (B.ent.new D h).elim al2.nm (fun h => by rw [hD0] at h; cases h), al2.n0,
          fun i ho q => by rw [B.mine i D ho q] at hD0; cases hD0⟩
      have Mx := M.trans m2
      refine toGc (lwPP (z := z)) A2.aside r2 ((lwPP (z := z) (z' := z)).later _ _ _ PQ m2) fun env3 S3 σ3 G3 m3 B3 w3 P3 => ⟨w3.trans (wipe_id own), G2.less e (wipe σ own), ?_⟩
      refine toT (lwPP (z := z)) B3 P3 fun b env4 S4 G4 m4 B4 P4 => ?_
      -- the frame behind a turn
      have fin : ∀ {G5 : Wd} {S5 : Stt} {e5 : Env}, At z.K (G2.less e (wipe σ own)) G5 S5 e5 σ3 → At z.K z.G0 G5 S5 (wipeE e5 own) (wipe σ own) ∧ Alone z G5 (wipeE e5 own) (wipe σ own) D vs := fun {G5 S5 e5} B => by
        have hw : wipe σ3 own = wipe σ own := w3.trans (wipe_id own)
        have B' := wipe_at (z := zc z (G2.less e (wipe σ own))) B own
        rw [hw] at B'
        exact ⟨A2.back B', keepD B'⟩
      cases b with
      | false =>
        rw [if_neg Bool.false_ne_true] at P4 ⊢
        obtain ⟨F1, F2⟩ := fin B4
        exact ⟨G4, _, S4, acc, vs, rfl, (Mx.trans m3).trans m4, F1, F2, ra.mon ((m2.trans m3).trans m4), P4⟩
      | true =>
        rw [if_pos rfl] at P4 ⊢
        refine ⟨G2.less e (wipe σ own), toE (lwPP (z := z)) B4 P4 fun w env5 S5 v G5 m5 B5 r5 P5 => ?_⟩
        obtain ⟨F1, F2⟩ := fin B5
        have Ma := (m2.trans m3).trans (m4.trans m5)
        by_cases hz : acc.length < sizeLine
        · rw [if_pos hz] at P5
          refine ⟨vs, F2.at_, by rw [← ra.length]; exact hz, ?_⟩
          obtain ⟨N1, N2, N3⟩ := F1.pokeAlone (vs' := vs ++ [v]) F2
          exact ⟨_, _, S5, acc ++ [w], vs ++ [v], rfl, ((Mx.trans m3).trans (m4.trans m5)).trans N1, N2, N3, ((ra.mon Ma).snoc r5).mon N1, (lwPP (z := z) (z' := z)).later _ _ _ P5 N1⟩
        · rw [if_neg hz] at P5
          exact P5.elim
    · have ed : ps.drop i = [] := List.drop_eq_nil_of_le (by omega)
      rw [ed] at PQ
      refine .inl ⟨en.stop i G M (by omega), ?_⟩
      have F := rest_at A1 M A
      exact PQ D vs G (Mon.refl _) F ra al.at_ al.nf al.nm al.n0 fun j ho q => by
        obtain ⟨xs, ho⟩ := ho
        obtain ⟨h1, h2⟩ := rest_own (σ := σ) (a := 0) ho
        exact al.no j ⟨xs, h2⟩ (by rw [wipe_get, if_neg h1]; exact q)
variable {elt tg iter : Expr} {ifs : List Expr} {scope : Scope} {items : Cd (List PV)} {g : PV → Cd Unit} {t : Cd Bool} {d : Cd PV}
theorem peb {e : Expr} {d : Cd PV} (h : MEb X z e d) : PE X e (REb z d) := ⟨fun pins s σ H Q I ⟨G0, q⟩ => (h G0).run pins s σ H Q I q⟩
theorem mf_comp (own : List (Str × Nat)) (hN : X.N.Nodup) (hi : MI X z tg iter items) {N : List Str} {sc : Scope} (ok : blkC N sc scope own = true)
    (hg : ∀ (s : Shared) (H : Hp) (C : Addr) (cl : List (Str × Addr)) (fp : List Addr), MGc (X.blk s H scope (compEnvC scope cl C X.env) fp) z (own.map (·.2)) tg g)
    (ht : ∀ (s : Shared) (H : Hp) (C : Addr) (cl : List (Str × Addr)) (fp : List Addr), MTsb (X.blk s H scope (compEnvC scope cl C X.env) fp) z ifs t)
    (he : ∀ (s : Shared) (H : Hp) (C : Addr) (cl : List (Str × Addr)) (fp : List Addr), MEb (X.blk s H scope (compEnvC scope cl C X.env) fp) z elt d) (hc : X.calm = true := by rfl) (hs : ∀ x, foldedSetIterable iter X.env x = pure x := by intro _; rfl) (hXN : X.N = N := by rfl) (hsc : X.env.scope = sc := by rfl) :
    MF X z (.ListComp elt [⟨tg, iter, ifs, 0⟩] scope pos) (dComp items (own.map (·.2)) g t d) :=
  (pe_lc hc hN hi (blkOk_by (by rw [hXN, hsc]; exact ok)) hg ht (fun s H C cl fp => peb (he s H C cl fp)) hs).imp fun σ H Q h => comp_rd h
/-- y = [..], y a local name of the same row: a value -/
theorem ms_comp (i : Nat) {y : Str} {py spos : Pos} (own : List (Str × Nat)) (hN : X.N.Nodup) (hi : MI X z tg iter items) {N : List Str} {sc : Scope} (ok : blkC N sc scope own = true)
    (hg : ∀ (s : Shared) (H : Hp) (C : Addr) (cl : List (Str × Addr)) (fp : List Addr), MGc (X.blk s H scope (compEnvC scope cl C X.env) fp) z (own.map (·.2)) tg g)
    (ht : ∀ (s : Shared) (H : Hp) (C : Addr) (cl : List (Str × Addr)) (fp : List Addr), MTsb (X.blk s H scope (compEnvC scope cl C X.env) fp) z ifs t)
    (he : ∀ (s : Shared) (H : Hp) (C : Addr) (cl : List (Str × Addr)) (fp : List Addr), MEb (X.blk s H scope (compEnvC scope cl C X.env) fp) z elt d) (hy : X.N[i]? = some y := by rfl) (hyl : X.env.scope.names.lookup y = some .local := by rfl)
    (hsw : swapsWith (.ListComp elt [⟨tg, iter, ifs, 0⟩] scope pos) (some (.Name y py)) spos.line X.env = pure true := by exact sw_true rfl rfl rfl (by decide +kernel))
    (hc : X.calm = true := by rfl) (hs : ∀ x, foldedSetIterable iter X.env x = pure x := by intro _; rfl) (hXN : X.N = N := by rfl) (hsc : X.env.scope = sc := by rfl) :
    MS X z (.Assign [.Name y py] (.ListComp elt [⟨tg, iter, ifs, 0⟩] scope pos) spos) (dSet i (dFrz (dComp items (own.map (·.2)) g t d))) :=
  PS.imp (ps_setLc hc hN hy hyl hsw hi (blkOk_by (by rw [hXN, hsc]; exact ok)) hg ht (fun s H C cl fp => peb (he s H C cl fp)) hs) fun D σ H ⟨G, env, S, e, A, P⟩ => by
    subst e
    unfold dSet dFrz at P
    rw [bnd_assoc] at P
    exact comp_rd (toF lwS A P fun xs env1 S1 a vs G1 m1 A1 r1 al P1 => P1 _ (G1.freeze a) mon_freeze ((A1.freeze al).setVal (.lst (.inr rfl) al.at_ (r1.mon mon_freeze))))
/-- .. a list that the name alone holds -/
theorem ms_compO (i : Nat) {y : Str} {py spos : Pos} (own : List (Str × Nat)) (hN : X.N.Nodup) (hi : MI X z tg iter items) {N : List Str} {sc : Scope} (ok : blkC N sc scope own = true)
    (hg : ∀ (s : Shared) (H : Hp) (C : Addr) (cl : List (Str × Addr)) (fp : List Addr), MGc (X.blk s H scope (compEnvC scope cl C X.env) fp) z (own.map (·.2)) tg g)
    (ht : ∀ (s : Shared) (H : Hp) (C : Addr) (cl : List (Str × Addr)) (fp : List Addr), MTsb (X.blk s H scope (compEnvC scope cl C X.env) fp) z ifs t)
    (he : ∀ (s : Shared) (H : Hp) (C : Addr) (cl : List (Str × Addr)) (fp : List Addr), MEb (X.blk s H scope (compEnvC scope cl C X.env) fp) z elt d) (hy : X.N[i]? = some y := by rfl) (hyl : X.env.scope.names.lookup y = some .local := by rfl)
    (hsw : swapsWith (.ListComp elt [⟨tg, iter, ifs, 0⟩] scope pos) (some (.Name y py)) spos.line X.env = pure true := by exact sw_true rfl rfl rfl (by decide +kernel))
    (hc : X.calm = true := by rfl) (hs : ∀ x, foldedSetIterable iter X.env x = pure x := by intro _; rfl) (hXN : X.N = N := by rfl) (hsc : X.env.scope = sc := by rfl) :
    MS X z (.Assign [.Name y py] (.ListComp elt [⟨tg, iter, ifs, 0⟩] scope pos) spos) (dOwn i (dComp items (own.map (·.2)) g t d)) :=
  PS.imp (ps_setLc hc hN hy hyl hsw hi (blkOk_by (by rw [hXN, hsc]; exact ok)) hg ht (fun s H C cl fp => peb (he s H C cl fp)) hs) fun D σ H ⟨G, env, S, e, A, P⟩ => by
    subst e
    exact comp_rd (toF lwS A P fun xs env1 S1 a vs G1 m1 A1 r1 al P1 => P1 _ G1 (Mon.refl _) (A1.setOwn r1 al))
end
end FS

set_option Elab.async false
set_option linter.all false
set_option maxRecDepth 100000
/-! FsTry: try with several clauses, each with or without a name. -/
namespace L2
open PySem PySem.Spec PyProof.Rows

/-- a clause: the class, the name's place (if there is one), the suite -/
abbrev Clause := Value × Option Nat × (Addr → Value → Option Addr → TS)
/-- the ends of a suite whose name goes -/
def goneEnds (D : Ends) (i : Nat) : Ends := { nx := fun σ H => D.nx (σ.set i none) H, rt := D.rt, bk := fun σ H => D.bk (σ.set i none) H, ct := fun σ H => D.ct (σ.set i none) H }
/-- what is wished of an error of the body -/
def wCl (K : PySem.W.Frag) (Wout : WX) (D : Ends) : List Clause → WX
  | [] => Wout
  | (c, none, ts) :: r => fun cls d σ H => ∃ b, PySem.W.exmOne K cls c = some b ∧ (b = true → ∀ a, H a = none → ts a cls d D σ H) ∧ (b = false → wCl K Wout D r cls d σ H)
  | (c, some i, ts) :: r => fun cls d σ H => ∃ b, PySem.W.exmOne K cls c = some b ∧ (b = true → ∀ a, H a = none → ts a cls d (goneEnds D i) (σ.set i (some (.ref a))) H) ∧ (b = false → wCl K Wout D r cls d σ H)
inductive ClOk (X : Cx) : List ExceptHandler → List Clause → Prop
  | nil : ClOk X [] []
  | bare {x : Str} {c : Value} {ts : Addr → Value → Option Addr → TS} {b0 : Stmt} {suite : List Stmt} {np pos' : Pos} {hds : List ExceptHandler} {l : List Clause} (hc : Names X x c)
      (hsu : ∀ (a : Addr) (oe : Obj) (cls : Value) (d : Option Addr) (pn : List (Addr × Obj)), Zc cls d oe → (∃ vs, oe.data = .fields vs) → PSs (X.suite a ((a, oe) :: pn)) (b0 :: suite) (ts a cls d)) (r : ClOk X hds l) :
      ClOk X (.ExceptHandler (some (.Name x np)) none (b0 :: suite) pos' :: hds) ((c, none, ts) :: l)
  | named {x n : Str} {i : Nat} {c : Value} {ts : Addr → Value → Option Addr → TS} {b0 : Stmt} {suite : List Stmt} {np pos' : Pos} {hds : List ExceptHandler} {l : List Clause} (hc : Names X x c) (hi : X.N[i]? = some n) (hln : X.env.kindOf n = some .local)
      (hsu : ∀ (a : Addr) (oe : Obj) (cls : Value) (d : Option Addr) (pn : List (Addr × Obj)), Zc cls d oe → (∃ vs, oe.data = .fields vs) → PSs (X.suite a ((a, oe) :: pn)) (b0 :: suite) (ts a cls d)) (r : ClOk X hds l) :
      ClOk X (.ExceptHandler (some (.Name x np)) (some n) (b0 :: suite) pos' :: hds) ((c, some i, ts) :: l)

/-- an error in flight stands in the handler's hands: what the clauses look at -/
structure Caught (X : Cx) (B : Heap) (pins : List (Addr × Obj)) (σ : St) (H : Hp) (sI : Shared) (a : Addr) (cls : Value) (d : Option Addr) (s : Shared) : Prop where
  J : Inv X pins σ H sI
  nb : ∀ b o, sI.heap.get? b = some o → b ∉ frs X.stack → B.get? b = some o
  fl : HandSPX.FlyingZ B (X.env :: X.outer) a (Zc cls d) s.heap
  up : sI.heap.UpToSlots s.heap
  os : s.os = sI.os
  ag : AllBare s.gens
  na : H a = none
  nL : a ≠ X.env.locals
  nF : a ∉ X.fs
section
variable {X : Cx} {pins : List (Addr × Obj)} {σ : St} {H : Hp} {sI s : Shared} {a : Addr} {cls : Value} {d : Option Addr} {B : Heap}
theorem Caught.inv (c : Caught X B pins σ H sI a cls d s) : Inv X pins σ H s := c.J.landed c.nb c.fl.1 c.up c.os c.ag
theorem Caught.suite (c : Caught X B pins σ H sI a cls d s) : ∃ oe, Zc cls d oe ∧ (∃ vs, oe.data = .fields vs) ∧ Inv (X.suite a ((a, oe) :: (X.pn ++ pins))) [] σ H s := by
  obtain ⟨oe, vs, he, hz, hd⟩ := c.fl.there
  exact ⟨oe, hz, ⟨vs, hd⟩, c.inv.suite he hd c.na c.nL c.nF⟩
/-- the class that a clause names is read -/
theorem Caught.names (c : Caught X B pins σ H sI a cls d s) {x : Str} {np : Pos} {cv : Value} (hc : Names X x cv) {Q : Value → Shared → Prop} {E : Value → Shared → Prop} (q : Q cv s) :
    wpAny (model X.prog X.w) (X.A.mark (some (.ref a))) (eval (.Name x np) X.env) Q E s := by
  obtain ⟨oe, _, _, S⟩ := c.suite
  obtain ⟨hg, hdbg, hm | ⟨hm, hv, hnn⟩⟩ := hc
  · exact ld_glob (X := X.suite a ((a, oe) :: (X.pn ++ pins))) S hg hm q hdbg
  · exact ld_blt (X := X.suite a ((a, oe) :: (X.pn ++ pins))) S hg hm hv q hnn hdbg
end
section
variable {X : Cx} {Wout : WX} {D : Ends}
/-- the clauses, one behind another -/
theorem clauses_run (hs : X.stack = X.env :: X.outer) (hf : X.env.frame = some X.env.locals) (hN : X.N.Nodup) (tk : Takes X Wout) {pins : List (Addr × Obj)} {σ : St} {H : Hp} {sI s : Shared} {a : Addr} {cls : Value} {d : Option Addr} {B : Heap}
    (c : Caught X B pins σ H sI a cls d s) : ∀ {hds : List ExceptHandler} {l : List Clause}, ClOk X hds l → wCl X.K Wout D l cls d σ H →
      wpAny (model X.prog X.w) X.A (handleBy (.ref a) X.env hds) (SP X pins D) X.xe s := by
  have ok := c.J.ok
  obtain ⟨oe3, vs3, he3, hz3, hd3⟩ := c.fl.there
  have LT : PySem.W.Looks (model X.prog X.w) s.heap (typeOf (.ref a)) cls := fun A Q E s k q => wpAny_typeOf_ref (k _ _ he3) (by rw [hz3.1]; exact q)
  intro hds l hk
  induction hk with
  | nil =>
    intro w
    refine wpAny_handleBy_nil ?_
    obtain ⟨k1, k2, k3, oe, vs, T, oT, ts', he, hz, hd, h1, hr⟩ := id c.fl
    unfold PySem.passOn
    refine wpAny_bind (wpAny_field he hd h1 ?_)
    rw [if_neg (by simp : ¬ ((Value.ref T == Value.none) = true))]
    have out : wpAny (model X.prog X.w) X.A (setFlight (.ref a) X.env.frame) (fun _ s4 => wpAny (model X.prog X.w) X.A (throw (.ref a) : Sem Flow) (SP X pins D) X.xe s4) X.xe s := by
      rw [hf]
      exact HandSPX.setFlight_upZ c.fl fun h4 hh4 up4 => wpAny_throw (tk _ _ ⟨a, B, sI, pins, σ, H, cls, d, rfl, c.J, c.nb, c.up.trans up4, .inr (.inr (by rw [hs]; exact hh4)), c.na, c.os, c.ag, w⟩)
    first
      | exact wpAny_bind (wpAny_pure (wpAny_bind out))
      | exact wpAny_bind out
  | @bare x cv ts b0 suite np pos' hds2 l2 hc hsu r ih =>
    rintro ⟨b, hb, hyes, hno⟩
    have LM := PySem.W.exm_one (M := model X.prog X.w) c.inv.kIn LT hb
    refine wpAny_handleBy_cons (codeAny_handlers_test (c.names hc (LM.here ?_))) (by intro q; cases q)
    cases b with
    | false => exact ih (hno rfl)
    | true =>
      refine codeAny_handlers_suite (HandSPX.lands_againZ c.fl fun h4 fl4 up4 => ?_)
      have c4 : Caught X B pins σ H sI a cls d { s with heap := h4 } := ⟨c.J, c.nb, fl4, c.up.trans up4, c.os, c.ag, c.na, c.nL, c.nF⟩
      obtain ⟨oe, hz, hv, S4⟩ := c4.suite
      refine wpAny_mono ((hsu a oe cls d (X.pn ++ pins) hz hv).run [] _ _ H _ S4 (hyes rfl a c.na)) (fun f s6 hsp => ?_) (fun _ _ z => False.elim z)
      cases f with
      | next => exact hsp.elim fun σ6 ⟨H6, S6, q6⟩ => ⟨σ6, H6, S6.unsuite ok, q6⟩
      | brk => exact hsp.elim fun σ6 ⟨H6, S6, q6⟩ => ⟨σ6, H6, S6.unsuite ok, q6⟩
      | cont => exact hsp.elim fun σ6 ⟨H6, S6, q6⟩ => ⟨σ6, H6, S6.unsuite ok, q6⟩
      | ret u => exact hsp.elim fun v6 ⟨σ6, H6, S6, r6, q6⟩ => ⟨v6, σ6, H6, S6.unsuite ok, r6, q6⟩
  | @named x n i cv ts b0 suite np pos' hds2 l2 hc hi hln hsu r ih =>
    rintro ⟨b, hb, hyes, hno⟩
    have LM := PySem.W.exm_one (M := model X.prog X.w) c.inv.kIn LT hb
    refine wpAny_handleBy_cons (codeAny_handlers_test (c.names hc (LM.here ?_))) (by intro q; cases q)
    cases b with
    | false => exact ih (hno rfl)
    | true =>
      refine codeAny_handlers_suite_as (HandSPX.lands_againZ c.fl fun h4 fl4 up4 => ?_)
      have c4 : Caught X B pins σ H sI a cls d { s with heap := h4 } := ⟨c.J, c.nb, fl4, c.up.trans up4, c.os, c.ag, c.na, c.nL, c.nF⟩
      obtain ⟨oe, hz, hv, S4⟩ := c4.suite
      refine store_ok (X := X.suite a ((a, oe) :: (X.pn ++ pins))) (v := .ref a) S4 hN hi (.inl hln) rfl (fun s5 S5 => ?_) (.inr hln)
      refine wpAny_mono ((hsu a oe cls d (X.pn ++ pins) hz hv).run [] s5 _ H _ S5 (hyes rfl a c.na)) (fun f s6 hsp => ?_) (fun _ _ z => False.elim z)
      have away : ∀ {σ6 : St} {H6 : Hp} {Q : Shared → Prop}, Inv (X.suite a ((a, oe) :: (X.pn ++ pins))) [] σ6 H6 s6 → (∀ s7, Inv X pins (σ6.set i none) H6 s7 → Q s7) →
          wpAny (model X.prog X.w) X.A (do bindName X.env n .none; unbindBehindTheSuite X.env n pos') (fun _ s7 => Q s7) X.xe s6 := fun S6 hq => gone_ok (S6.unsuite ok) hN hi hln hq
      cases f with
      | next => exact hsp.elim fun σ6 ⟨H6, S6, q6⟩ => away S6 fun s7 J7 => ⟨_, _, J7, q6⟩
      | brk => exact hsp.elim fun σ6 ⟨H6, S6, q6⟩ => away S6 fun s7 J7 => ⟨_, _, J7, q6⟩
      | cont => exact hsp.elim fun σ6 ⟨H6, S6, q6⟩ => away S6 fun s7 J7 => ⟨_, _, J7, q6⟩
      | ret u => exact hsp.elim fun v6 ⟨σ6, H6, S6, r6, q6⟩ => away S6 fun s7 J7 => ⟨_, _, _, J7, r6, q6⟩
variable {body : List Stmt} {h0 : ExceptHandler} {hds : List ExceptHandler} {l : List Clause} {pos : Pos} {tb : WX → TS}
theorem ps_try_cl (hs : X.stack = X.env :: X.outer) (hf : X.env.frame = some X.env.locals) (hN : X.N.Nodup) (tk : Takes X Wout)
    (hb : ∀ (W : WX) (pn : List (Addr × Obj)) (xe : Value → Shared → Prop), Takes (X.tr pn xe) W → PassesOwn (model X.prog X.w) X.A X.env xe → PSs (X.tr pn xe) body (tb W))
    (hh : ClOk X (h0 :: hds) l) : PS X (.Try body (h0 :: hds) [] [] pos) (fun D σ H => tb (wCl X.K Wout D l) D σ H) := by
  refine ⟨fun pins s σ H D I h => ?_⟩
  have ok := I.ok
  have hfr : X.A.frames = some (X.env :: X.outer) := by rw [ok.frames, hs]
  have hbody := hb (wCl X.K Wout D l) (X.pn ++ pins) (fun e s1 => wpAny (model X.prog X.w) X.A (noteFrame e X.env) (fun _ s2 => wpAny (model X.prog X.w) X.A (setFlight e none) (fun _ s3 =>
    wpAny (model X.prog X.w) X.A (handleBy e X.env (h0 :: hds)) (SP X pins D) X.xe s3) X.xe s2) X.xe s1) (fun u s' xx => by
      obtain ⟨a, B, sI, pins', σ', H', cls, d, rfl, J', nb, up, sky, na, os, ag, w⟩ := xx
      have J : Inv X pins σ' H' sI := J'.ofTry ok
      have sky' : Sky B (X.env :: X.outer) a (Zc cls d) X.env.locals s'.heap := by rw [← hs]; exact sky
      refine Sky.land Zc.steady hfr hf sky' fun h3 fl3 up3 => ?_
      obtain ⟨oe3, vs3, he3, _, hd3⟩ := fl3.there
      have nfr : a ∉ frs (X.env :: X.outer) := fun hm => by
        obtain ⟨_, o', e', hnf⟩ := fl3.2.2.1.mem hm
        rw [he3] at e'
        cases e'
        exact hnf _ hd3
      refine clauses_run hs hf hN tk (s := { s' with heap := h3 }) ⟨J, nb, fl3, up.trans up3, os, ag, na, fun z => nfr ?_, fun hm => nfr ?_⟩ hh w
      · exact List.mem_filterMap.mpr ⟨X.env, List.mem_cons_self, by rw [hf, z]⟩
      · obtain ⟨e, he, q⟩ := List.mem_filterMap.mp hm
        exact List.mem_filterMap.mpr ⟨e, List.mem_cons_of_mem _ he, q⟩) PassesOwn.looking
  refine wpAny_Try_except (wpAny_mono (hbody.run [] s σ H D (I.toTry _) h) (fun f s1 hsp => ?_) (fun e s1 he => he))
  cases f with
  | next => exact hsp.elim fun σ' ⟨H', J', q⟩ => wpAny_execs_nil ⟨σ', H', J'.ofTry ok, q⟩
  | brk => exact hsp.elim fun σ' ⟨H', J', q⟩ => ⟨σ', H', J'.ofTry ok, q⟩
  | cont => exact hsp.elim fun σ' ⟨H', J', q⟩ => ⟨σ', H', J'.ofTry ok, q⟩
  | ret u => exact hsp.elim fun v ⟨σ', H', J', r, q⟩ => ⟨v, σ', H', J'.ofTry ok, r, q⟩
end
end L2

set_option Elab.async false
set_option linter.all false
set_option maxRecDepth 100000
/-! FsTry2: try as data; what a caught error tells. -/
namespace L2
open PySem PySem.Spec PyProof.Rows
/-- what the written part says of an error's class, for those who ask its instances -/
structure ErA (K : PySem.W.Frag) (C : Addr) : Prop where
  ga : PySem.W.findIn K (.ref C) "__getattribute__" = some (some (.builtin "BaseException.__getattribute__"))
  gg : PySem.W.findIn K (.ref C) "__getattr__" = some none
  exC : PySem.W.subIn K (.ref C) (.type "BaseException") = some true
  hdC : PySem.W.hasDictIn K C = true
  noW : PySem.W.findIn K (.ref C) "what" = some none
section
variable {X : Cx} {a d C : Addr} {oe : Obj} {pn : List (Addr × Obj)}
/-- e.what -/
def tWhat (a d : Addr) (te : TE) : TE := fun σ H Q => te σ H fun x H1 => x = .ref a ∧ ∃ v : V, H1 d = some (.xd [(("what" : Str), v)]) ∧ Q v H1
theorem pe_what {e : Expr} {te : TE} {pos : Pos} (T : ErA X.K C) (hz : Zc (.ref C) (some d) oe) (hf : ∃ vs, oe.data = .fields vs) (he : PE (X.suite a ((a, oe) :: pn)) e te)
    (hb : attributeBase e "what" X.env (eval e X.env) = eval e X.env := by rfl) : PE (X.suite a ((a, oe) :: pn)) (.Attribute e "what" pos) (tWhat a d te) := by
  refine ⟨fun pins s σ H Q I h => attr_of hb (thn (he.run pins s σ H _ I h) fun u s1 ⟨x, H1, I1, rx, ex, v, ea, q⟩ => ?_)⟩
  subst ex
  obtain rfl : u = Value.ref a := rx
  obtain ⟨ha, _⟩ := I1.pin (a, oe) (List.mem_append_left _ List.mem_cons_self)
  obtain ⟨vs, hd⟩ := hf
  have hx : ObjOk X.prog X.w H1 s1.heap d (.xd [(("what" : Str), v)]) := I1.hok d _ ea
  obtain ⟨mA, hns, hr⟩ := hx
  obtain ⟨od, ho, hl⟩ := lookIn_ns hns
  have l : List.lookup ("what" : Str) [(("what" : Str), v)] = some v := by simp [List.lookup]
  obtain ⟨u, hu, ru⟩ := RelO.some_of (v := v) (o := mA "what") (by rw [← l]; exact hr "what")
  have J : PySem.W.InstAt s1.heap a oe C (some od) := ⟨ha, hz.1, by unfold PySem.W.notCls; rw [hd] <;> rfl, by rw [hz.2]; exact ho⟩
  exact HandSPX.exc_get I1.kIn J T.ga T.gg T.exC (PySem.W.findObj_own T.hdC T.noW rfl (by rw [hl, hu])) (handed_of ru) ⟨v, H1, I1.tok _, ru, q⟩
/-- .. more, for isinstance -/
structure ErI (K : PySem.W.Frag) (C : Addr) : Prop where
  ga : PySem.W.findIn K (.ref C) "__getattribute__" = some (some (.builtin "BaseException.__getattribute__"))
  gg : PySem.W.findIn K (.ref C) "__getattr__" = some none
  exC : PySem.W.subIn K (.ref C) (.type "BaseException") = some true
  hdC : PySem.W.hasDictIn K C = true
  ha : PySem.W.findIn K (.ref C) "__class__" = some (some (.builtin "object.__class__"))
  hn : PySem.W.specialIn K (.builtin "object.__class__") "__get__" = some (some (.builtin "getset_descriptor.__get__"))
  ht : PySem.W.takesIn K (.builtin "object.__class__") = some true
  hm : PySem.W.mroIn K C (.type "object") = some true
def rIsX (K : PySem.W.Frag) (C a d : Addr) : List V → Hp → VK → Prop := fun xs H Q => ∃ (c : V) (cv : Value) (b : Bool) (fs : List (Str × V)), xs = [.ref a, c] ∧ H d = some (.xd fs) ∧ (∀ u, RelV c u → u = cv) ∧ PySem.W.kitOne K (.ref C) cv = some b ∧ Q (.bl b) H
theorem call_isX (T : ErI X.K C) (hz : Zc (.ref C) (some d) oe) (hf : ∃ vs, oe.data = .fields vs) : CallR (X.suite a ((a, oe) :: pn)) (.builtin "isinstance") (rIsX X.K C a d) := by
  intro pins s σ H xs us Q I r h
  obtain ⟨c, cv, b, fs, rfl, hd, hcv, e, q⟩ := h
  obtain ⟨u1, u2, rfl, rx, rt⟩ := vals2 r
  obtain rfl : u1 = Value.ref a := rx
  obtain rfl := hcv _ rt
  obtain ⟨hget, _⟩ := I.pin (a, oe) (List.mem_append_left _ List.mem_cons_self)
  obtain ⟨vs, hv⟩ := hf
  have hx : ObjOk X.prog X.w H s.heap d (.xd fs) := I.hok d _ hd
  obtain ⟨mA, hns, hr⟩ := hx
  obtain ⟨od, ho, hl⟩ := lookIn_ns hns
  have J : PySem.W.InstAt s.heap a oe C (some od) := ⟨hget, hz.1, by unfold PySem.W.notCls; rw [hv] <;> rfl, by rw [hz.2]; exact ho⟩
  have hcl : (PySem.W.clsIn X.K C).isSome = true := by
    obtain ⟨cd, hc, _⟩ := PySem.W.any_some T.hdC
    rw [hc]
    rfl
  exact PySem.W.kia_one (PySem.W.kitx_exc (od := some od) hcl T.ga T.gg T.exC T.ha T.hn T.ht T.hm) I.kIn J e (fun z => nomatch z) fun tk => ⟨.bl b, H, I.kept (t' := tk) fun _ _ z => z, rfl, q⟩
end
end L2
namespace FS
open PySem PySem.Spec L2
/-- which clauses take which errors -/
def catches (h c : Str) : Bool := decide (h = c) || decide (h = ("Refused" : Str)) || decide (h = ("ValueError" : Str))
def clearO (i : Nat) : Out Flw → Out Flw
  | .ok f e s => .ok f (e.set i .none) s
  | _ => .bad
def quiet : Out Flw → Out Flw
  | .ok f e s => .ok f e s
  | _ => .bad
/-- a clause: its class's name, its name's place, its suite (by the error's class, its address and its dict's) -/
structure Hdl where
  h : Str
  i : Option Nat
  d : Str → Addr → Addr → Cd Flw
open Classical in
noncomputable def hdl : List Hdl → Str → PV → Cd Flw
  | [], c, w => fun e s => .raise c w e s
  | ⟨h, none, d⟩ :: r, c, w => if catches h c = true then fun e s => quiet (d c 0 0 e s) else hdl r c w
  | ⟨h, some i, d⟩ :: r, c, w => if catches h c = true then fun e s => if ∀ a b : Addr, clearO i (d c a b (e.set i (.exc a b w)) s) = clearO i (d c 0 0 (e.set i (.exc 0 0 w)) s) then clearO i (d c 0 0 (e.set i (.exc 0 0 w)) s) else .bad
    else hdl r c w
noncomputable def dTry (tab : List Str) (hs : List Hdl) (d : Cd Flw) : Cd Flw := fun e s => match d e s with
  | .raise c w e' s' => if tab.contains c = true then hdl hs c w e' s' else .bad
  | .ok f e' s' => .ok f e' s'
  | .bad => .bad
section
variable {X : Cx} {z : Zx}
abbrev zs (z : Zx) : Zx := ⟨z.K, z.mg, z.G0, fun _ _ _ _ => False⟩
abbrev zw (z : Zx) (W : WX) : Zx := ⟨z.K, z.mg, z.G0, W⟩
def tsOf (z : Zx) (tab : List Str) (dd : Str → Addr → Addr → Cd Flw) (nm : Bool) : Addr → Value → Option Addr → TS := fun a cls d D σ H => ∃ c b, d = some b ∧ z.mg c = some cls ∧ tab.contains c = true ∧ RS (zs z) (if nm = true then dd c a b else dd c 0 0) D σ H
/-- the clauses of the text, as data -/
inductive HsOk (X : Cx) (z : Zx) (tab : List Str) : List ExceptHandler → List Hdl → List Clause → Prop
  | nil : HsOk X z tab [] [] []
  | bare {x : Str} {cv : Value} {b0 : Stmt} {suite : List Stmt} {np pos' : Pos} {hds : List ExceptHandler} {hs : List Hdl} {l : List Clause} {dd : Str → Addr → Addr → Cd Flw} (hc : Names X x cv) (hex : ∀ c cls, tab.contains c = true → z.mg c = some cls → PySem.W.exmOne X.K cls cv = some (catches x c))
      (hsu : ∀ (a : Addr) (oe : Obj) (cls : Value) (b : Addr) (pn : List (Addr × Obj)) (c : Str), Zc cls (some b) oe → (∃ vs, oe.data = .fields vs) → z.mg c = some cls → tab.contains c = true → MSs (X.suite a ((a, oe) :: pn)) (zs z) (b0 :: suite) (dd c 0 0)) (r : HsOk X z tab hds hs l) :
      HsOk X z tab (.ExceptHandler (some (.Name x np)) none (b0 :: suite) pos' :: hds) (⟨x, none, dd⟩ :: hs) ((cv, none, tsOf z tab dd false) :: l)
  | named {x n : Str} {i : Nat} {cv : Value} {b0 : Stmt} {suite : List Stmt} {np pos' : Pos} {hds : List ExceptHandler} {hs : List Hdl} {l : List Clause} {dd : Str → Addr → Addr → Cd Flw} (hc : Names X x cv) (hi : X.N[i]? = some n) (hln : X.env.kindOf n = some .local)
      (hex : ∀ c cls, tab.contains c = true → z.mg c = some cls → PySem.W.exmOne X.K cls cv = some (catches x c))
      (hsu : ∀ (a : Addr) (oe : Obj) (cls : Value) (b : Addr) (pn : List (Addr × Obj)) (c : Str), Zc cls (some b) oe → (∃ vs, oe.data = .fields vs) → z.mg c = some cls → tab.contains c = true → MSs (X.suite a ((a, oe) :: pn)) (zs z) (b0 :: suite) (dd c a b)) (r : HsOk X z tab hds hs l) :
      HsOk X z tab (.ExceptHandler (some (.Name x np)) (some n) (b0 :: suite) pos' :: hds) (⟨x, some i, dd⟩ :: hs) ((cv, some i, tsOf z tab dd true) :: l)
theorem HsOk.cl {tab : List Str} {hds : List ExceptHandler} {hs : List Hdl} {l : List Clause} (h : HsOk X z tab hds hs l) : ClOk X hds l := by
  induction h with
  | nil => exact .nil
  | @bare x cv b0 suite np pos' hds hs l dd hc hex hsu r ih =>
    refine .bare hc (fun a oe cls d pn hz hv => ⟨fun pins s σ H D I h => ?_⟩) ih
    obtain ⟨c, b, rfl, hm, ht, q⟩ := h
    exact (hsu a oe cls b pn c hz hv hm ht).run pins s σ H D I q
  | @named x n i cv b0 suite np pos' hds hs l dd hc hi hln hex hsu r ih =>
    refine .named hc hi hln (fun a oe cls d pn hz hv => ⟨fun pins s σ H D I h => ?_⟩) ih
    obtain ⟨c, b, rfl, hm, ht, q⟩ := h
    exact (hsu a oe cls b pn c hz hv hm ht).run pins s σ H D I q
variable {G : Wd} {env : Env} {S : Stt} {σ : St}
/-- a new thing that is no list is frozen -/
theorem At.freezeX {a : Addr} {o : HO} (A : At z.K z.G0 G S env σ) (ha : G.H a = some o) (ho : ∀ vs, o ≠ .lst vs) (h0 : z.G0.H a = none) : At z.K z.G0 (G.freeze a) S env σ := by
  have M : Mon G (G.freeze a) := mon_freeze
  refine ⟨⟨A.st.len, A.st.nd, fun b hb h => ?_, fun i b o h1 h2 => (A.st.ob i b o h1 h2).mono M⟩, A.en.over M fun i b hw e => ?_, ⟨A.ent.pre, A.ent.new, fun b h => .inl (A.ent.fz b h), fun b h => h.elim (A.ent.fzn b) fun e => .inr (by rw [e]; exact h0), A.ent.keep, A.ent.there⟩, A.mine, fun b h => ?_⟩
  · rcases h with h | h
    · exact A.st.nf b hb h
    · rw [h] at hb
      obtain ⟨i, hi⟩ := List.getElem?_of_mem hb
      have hl : i < S.length := by rw [← A.st.len]; exact (List.getElem?_eq_some_iff.mp hi).1
      have q := A.st.ob i a S[i] hi (by simp [hl])
      cases e : S[i] with
      | lst xs =>
        rw [e] at q
        obtain ⟨vs, q, _⟩ := q
        rw [ha] at q
        cases q
        exact ho vs rfl
  · obtain ⟨xs, hw⟩ := hw
    obtain ⟨c, ws, e1, e2, _, n1, n2⟩ := A.en.own i xs hw
    rw [e] at e1
    cases e1
    refine ⟨rfl, fun h => ?_, n2⟩
    rcases h with h | h
    · exact n1 h
    · rw [h, ha] at e2
      cases e2
      exact ho ws rfl
  · rcases h with h | h
    · exact A.sure b h
    · exact ⟨o, by rw [h]; exact ha⟩
open Classical in
theorem hdl_ok {tab : List Str} {hds : List ExceptHandler} {hs : List Hdl} {l : List Clause} (hk : HsOk X z tab hds hs l) {D : Ends} {c : Str} {w : PV} {e' : Env} {s' : Stt} (ht : tab.contains c = true) (P : PostS z G D (hdl hs c w e' s')) {σ' : St} {G' : Wd} {cls : Value} {d : Addr} {v : V}
    (M : Mon G G') (A : At z.K z.G0 G' s' e' σ') (hm : z.mg c = some cls) (h0 : z.G0.H d = none) (hd : G'.H d = some (.xd [(("what" : Str), v)])) (rv : Rep z.K G' w v) : wCl X.K z.W D l cls (some d) σ' G'.H := by
  induction hk with
  | nil => exact P σ' G' cls d v M A hm h0 hd rv
  | @bare x cv b0 suite np pos' hds hs l dd hc hex hsu r ih =>
    refine ⟨catches x c, hex c cls ht hm, fun hb a na => ⟨c, d, rfl, hm, ht, G', e', s', rfl, A, ?_⟩, fun hb => ih ?_⟩
    · unfold hdl at P
      rw [if_pos hb] at P
      cases e : dd c 0 0 e' s' with
      | ok f e2 s2 =>
        rw [e] at P
        have P' := P.later M
        simp only [Bool.false_eq_true, if_false]
        rw [e]
        cases f <;> exact P'
      | raise c2 w2 e2 s2 => rw [e] at P; exact P.elim
      | bad => rw [e] at P; exact P.elim
    · unfold hdl at P
      rw [if_neg (by rw [hb]; exact Bool.false_ne_true)] at P
      exact P
  | @named x n i cv b0 suite np pos' hds hs l dd hc hi hln hex hsu r ih =>
    refine ⟨catches x c, hex c cls ht hm, fun hb a na => ?_, fun hb => ih ?_⟩
    · unfold hdl at P
      rw [if_pos hb] at P
      by_cases hall : ∀ a b : Addr, clearO i (dd c a b (e'.set i (.exc a b w)) s') = clearO i (dd c 0 0 (e'.set i (.exc 0 0 w)) s')
      · have P0 : PostS z G D (if ∀ a b : Addr, clearO i (dd c a b (e'.set i (.exc a b w)) s') = clearO i (dd c 0 0 (e'.set i (.exc 0 0 w)) s') then clearO i (dd c 0 0 (e'.set i (.exc 0 0 w)) s') else .bad) := P
        rw [if_pos hall, ← hall a d] at P0
        replace P := P0
        have M1 : Mon G' (G'.freeze d) := mon_freeze
        have A1 : At z.K z.G0 (G'.freeze d) s' (e'.set i (.exc a d w)) (σ'.set i (some (.ref a))) :=
          (A.freezeX hd (fun vs e => by cases e) h0).setSlot0 (.inr (.inr ⟨a, d, w, rfl, rfl, .inr rfl, v, hd, rv.mon M1⟩))
        refine ⟨c, d, rfl, hm, ht, G'.freeze d, _, s', rfl, A1, ?_⟩
        rw [if_pos rfl]
        have P' := P.later (M.trans M1)
        cases e : dd c a d (e'.set i (.exc a d w)) s' with
        | ok f e2 s2 =>
          rw [e] at P'
          cases f with
          | next => exact fun σ2 G2 m2 A2 => P' (σ2.set i none) G2 m2 (A2.setSlot (.inl rfl))
          | brk => exact fun σ2 G2 m2 A2 => P' (σ2.set i none) G2 m2 (A2.setSlot (.inl rfl))
          | cont => exact fun σ2 G2 m2 A2 => P' (σ2.set i none) G2 m2 (A2.setSlot (.inl rfl))
          | ret p => exact fun u σ2 G2 m2 A2 r2 => P' u (σ2.set i none) G2 m2 (A2.setSlot (.inl rfl)) r2
        | raise c2 w2 e2 s2 => rw [e] at P'; exact P'.elim
        | bad => rw [e] at P'; exact P'.elim
      · have P0 : PostS z G D (if ∀ a b : Addr, clearO i (dd c a b (e'.set i (.exc a b w)) s') = clearO i (dd c 0 0 (e'.set i (.exc 0 0 w)) s') then clearO i (dd c 0 0 (e'.set i (.exc 0 0 w)) s') else .bad) := P
        rw [if_neg hall] at P0
        exact P0.elim
    · unfold hdl at P
      rw [if_neg (by rw [hb]; exact Bool.false_ne_true)] at P
      exact P
theorem ms_try {tab : List Str} {body : List Stmt} {h0 : ExceptHandler} {hds : List ExceptHandler} {hs : List Hdl} {l : List Clause} {pos : Pos} {d : Cd Flw} (hN : X.N.Nodup) (tk : Takes X z.W)
    (hb : ∀ (W : WX) (pn : List (Addr × Obj)) (xe : Value → Shared → Prop), Takes (X.tr pn xe) W → PassesOwn (model X.prog X.w) X.A X.env xe → MSs (X.tr pn xe) (zw z W) body d)
    (hh : HsOk X z tab (h0 :: hds) hs l) (hst : X.stack = X.env :: X.outer := by rfl) (hf : X.env.frame = some X.env.locals := by rfl) : MS X z (.Try body (h0 :: hds) [] [] pos) (dTry tab hs d) := by
  refine PS.imp (ps_try_cl hst hf hN tk (tb := fun W => RS (zw z W) d) hb hh.cl) fun D σ H ⟨G, env, S, e, A, P⟩ => ?_
  subst e
  refine ⟨G, env, S, rfl, A, ?_⟩
  unfold dTry at P
  cases e : d env S with
  | bad => rw [e] at P; exact P.elim
  | ok f e1 s1 =>
    rw [e] at P
    cases f <;> exact P
  | raise c w e1 s1 =>
    rw [e] at P
    simp only at P
    by_cases ht : tab.contains c = true
    · rw [if_pos ht] at P
      exact fun σ' G' cls dx v M A1 hm h0 hd rv => hdl_ok hh ht P M A1 hm h0 hd rv
    · rw [if_neg ht] at P
      exact P.elim
variable {a b C : Addr} {oe : Obj} {pn : List (Addr × Obj)} {pos p1 p2 p3 : Pos}
/-- e.what, e the error that the suite holds -/
def dWhat (i : Nat) (a b : Addr) : Cd PV := fun e s => match e[i]? with
  | some (.exc a' b' w) => if a' = a ∧ b' = b then .ok w e s else .bad
  | _ => .bad
theorem me_what (i : Nat) {n : Str} (T : ErA X.K C) (hz : Zc (.ref C) (some b) oe) (hv : ∃ vs, oe.data = .fields vs) (hN : X.N[i]? = some n := by rfl) (hvis : Vis X.env.scope n := by first | exact Or.inl rfl | exact Or.inr (Or.inl rfl) | exact Or.inr (Or.inr rfl)) (hd : (n == ("__debug__" : Str)) = false := by decide)
    (hcd : (n == ("__classdict__" : Str)) = false := by decide) (hb : attributeBase (.Name n p1) "what" X.env (eval (.Name n p1) X.env) = eval (.Name n p1) X.env := by rfl) :
    ME (X.suite a ((a, oe) :: pn)) z (.Attribute (.Name n p1) "what" pos) (dWhat i a b) := by
  refine PE.imp (pe_what T hz hv (pe_var (X := X.suite a ((a, oe) :: pn)) (i := i) hN hvis hd hcd) hb) fun σ H Q ⟨G, env, S, e, A, P⟩ => ?_
  subst e
  unfold dWhat at P
  cases q : env[i]? with
  | none => rw [q] at P; exact P.elim
  | some sl =>
    rw [q] at P
    cases sl with
    | none => exact P.elim
    | val p => exact P.elim
    | own xs => exact P.elim
    | exc a' b' w =>
      simp only at P
      by_cases h : a' = a ∧ b' = b
      · rw [if_pos h] at P
        obtain ⟨rfl, rfl⟩ := h
        obtain ⟨e1, f1, v, e2, r⟩ := A.en.exc i _ _ w q
        exact ⟨_, e1, rfl, v, e2, P v G (Mon.refl _) A r⟩
      · rw [if_neg h] at P
        exact P.elim
def dIsE (i : Nat) (a b : Addr) (k : Bool) : Cd PV := fun e s => match e[i]? with
  | some (.exc a' b' _) => if a' = a ∧ b' = b then .ok (.bl k) e s else .bad
  | _ => .bad
theorem me_isE (i : Nat) {n h : Str} {cv : Value} {c : V} {k : Bool} (T : ErI X.K C) (hz : Zc (.ref C) (some b) oe) (hv : ∃ vs, oe.data = .fields vs) (hc : PE (X.suite a ((a, oe) :: pn)) (.Name h p2) (tC c)) (hcv : ∀ u, RelV c u → u = cv) (hk : PySem.W.kitOne X.K (.ref C) cv = some k) (hm : X.mg "isinstance" = none)
    (hN : X.N[i]? = some n := by rfl) (hvis : Vis X.env.scope n := by first | exact Or.inl rfl | exact Or.inr (Or.inl rfl) | exact Or.inr (Or.inr rfl)) (hd : (n == ("__debug__" : Str)) = false := by decide)
    (hcd : (n == ("__classdict__" : Str)) = false := by decide) (hg : Gl X "isinstance" := by rfl)
    (hs1 : starEach [.Name n p1, .Name h p2] X.env = (false, eval (.Name n p1) X.env) :: starEach [.Name h p2] X.env := by rfl) (hs2 : starEach [.Name h p2] X.env = (false, eval (.Name h p2) X.env) :: starEach [] X.env := by rfl)
    (hpl : (backTo pos (starEach [.Name h p2] X.env)).any (·.1) = false := by rfl) :
    ME (X.suite a ((a, oe) :: pn)) z (.Call (.Name "isinstance" p3) [.Name n p1, .Name h p2] [] pos) (dIsE i a b k) := by
  refine PE.imp (pe_callB (X := X.suite a ((a, oe) :: pn)) (x := "isinstance") (call_isX (pn := pn) T hz hv) hg hm (by decide +kernel) (pa_cons (pe_var (X := X.suite a ((a, oe) :: pn)) (i := i) hN hvis hd hcd) (pa_cons hc pa_nil hs2) hs1) (by decide) (by decide) hs1 hpl) fun σ H Q ⟨G, env, S, e, A, P⟩ => ?_
  subst e
  unfold dIsE at P
  cases q : env[i]? with
  | none => rw [q] at P; exact P.elim
  | some sl =>
    rw [q] at P
    cases sl with
    | none => exact P.elim
    | val p => exact P.elim
    | own xs => exact P.elim
    | exc a' b' w =>
      simp only at P
      by_cases h : a' = a ∧ b' = b
      · rw [if_pos h] at P
        obtain ⟨rfl, rfl⟩ := h
        obtain ⟨e1, f1, v, e2, r⟩ := A.en.exc i _ _ w q
        exact ⟨_, e1, c, cv, k, _, rfl, e2, hcv, hk, P (.bl k) G (Mon.refl _) A (.bl k)⟩
      · rw [if_neg h] at P
        exact P.elim
end
end FS

set_option Elab.async false
set_option linter.all false
set_option maxRecDepth 100000
/-! FsLaw: a law's end. -/
namespace FS
open PySem PySem.Spec L2
/-- a law's promise: a list of at most 63 ints is handed in, True comes out -/
def spLaw (K : PySem.W.Frag) : Sp := fun vs H Q _ => ∃ (a : Addr) (ns : List Int), vs = [.ref a] ∧ SqL K H a (ns.map V.int) ∧ ns.length ≤ 63 ∧ ∀ H', Q (.bl true) H'
theorem law_imp {P : Program} {w : World} {K : PySem.W.Frag} {mg : Str → Option Value} {base : Heap} {k : Nat} {f : Addr} {fd : FuncData} {x : Str} {den : List PV → Stt → Res} (F : FnOk P w K mg base (L2.CX P w) k f fd [x] (spD K mg 1 den))
    (h : ∀ ns : List Int, ns.length ≤ 63 → ∃ S, den [.scr ns] [] = .ok (.bl true) S) : FnOk P w K mg base (L2.CX P w) k f fd [x] (spLaw K) := by
  refine F.imp fun vs H Q E ⟨a, ns, e, hs, hl, q⟩ => ?_
  subst e
  obtain ⟨S, hS⟩ := h ns hl
  have fin : ∀ (fz : Addr → Prop), (∀ b, fz b → ∃ o, H b = some o) → Rep K ⟨[], fz, H⟩ (.scr ns) (.ref a) → spD K mg 1 den [.ref a] H Q E := fun fz su r => by
    refine ⟨⟨[], fz, H⟩, [.scr ns], [], rfl, .cons r .nil, ⟨rfl, List.nodup_nil, fun b hb => absurd hb List.not_mem_nil, fun i b o h1 h2 => by
      have h3 : ([] : List Addr)[i]? = some b := h1
      simp at h3⟩, su, rfl, ?_⟩
    rw [hS]
    exact fun v G' _ _ _ _ rv => by cases rv; exact q _
  rcases hs with hs | hs
  · refine fin (fun b => b = a) (fun b hb => ?_) (.scr (.inl ⟨rfl, .inl hs⟩))
    rw [hb]
    rcases hs with hs | ⟨o, hs⟩
    · exact ⟨_, hs⟩
    · exact ⟨_, hs⟩
  · exact fin (fun _ => False) (fun b hb => hb.elim) (.scr (.inr (.inr hs)))
theorem law_walk {l : PySem.W.OpenLaw} {k : Nat} {q : Program} {loose : List Str} {XP : (Str → Option Value) → Heap → Prop} {YP : World → Heap → Prop} {d : DefRec} {K : Params → PySem.W.Frag} {x : Str}
    (hn : l.most = some 63) (hdf : d.params.defaults = []) (hr : Room k callerA) (hY : ∀ (w : World) (h : Heap), YP w h → (K w.params).In h)
    (F : ∀ (w : World) (mg : Str → Option Value) (fa : Addr) (h : Heap), (K w.params).In h → h.Ns mainGlobals mg → mg d.name = some (.ref fa) →
      ∃ fd : FuncData, (∀ (s : Shared) (u : Value), BindsTo s fd ⟨[u], []⟩ [(x, u)]) ∧ ∀ base : Heap, (K w.params).In base → base.Ns mainGlobals mg → FnOk l.prog w (K w.params) mg base (L2.CX l.prog w) k fa fd [x] (spLaw (K w.params))) :
    PySem.W.WalkO q loose XP YP l.row.toRowW d [] (fun f vs => PySem.call f vs) :=
  L2.walk_of (n := 63) (k := k) (x := x) (CX := fun w => L2.CX l.prog w) (sp := fun w => spLaw (K w.params)) hn (by decide) hdf hr hY F (fun _ _ a ns hl _ hS => ⟨a, ns, rfl, hS, hl, fun _ => rfl⟩) fun _ _ _ _ _ z => by
    obtain ⟨_, _, _, _, _, _, _, _, _, _, _, _, z⟩ := z
    exact z
end FS

set_option Elab.async false
set_option linter.all false
set_option maxRecDepth 100000
/-! FsWp: how a denotation is run, by what is wanted behind it. -/
namespace FS
open PySem L2

abbrev Pq (α : Type) := α → Env → Stt → Prop
abbrev Pr := Str → PV → Env → Stt → Prop
def Wp {α : Type} (o : Out α) (Q : Pq α) (R : Pr) : Prop := match o with
  | .ok a e s => Q a e s
  | .raise c w e s => R c w e s
  | .bad => False
def Fn (r : Res) (Q : PV → Stt → Prop) (R : Str → PV → Stt → Prop) : Prop := match r with
  | .ok p s => Q p s
  | .raise c w s => R c w s
  | .bad => False
abbrev noR : Str → PV → Stt → Prop := fun _ _ _ => False
/-- the ends of a body -/
def FQ (Q : PV → Stt → Prop) : Pq Flw
  | .next, _, s => Q .non s
  | .ret p, _, s => Q p s
  | .brk, _, _ => False
  | .cont, _, _ => False
/-- .. of a statement that others follow -/
def SQ (K : Env → Stt → Prop) (Q : Pq Flw) : Pq Flw
  | .next, e, s => K e s
  | .ret p, e, s => Q (.ret p) e s
  | .brk, e, s => Q .brk e s
  | .cont, e, s => Q .cont e s
/-- .. of a loop's body -/
def LQ (I : Env → Stt → Prop) (Q : Pq Flw) : Pq Flw
  | .next, e, s => I e s
  | .cont, e, s => I e s
  | .ret p, e, s => Q (.ret p) e s
  | .brk, e, s => Q .next e s
section
variable {α β : Type} {e : Env} {s : Stt} {R : Pr}
theorem Wp.mono {o : Out α} {Q Q' : Pq α} {R R' : Pr} (h : Wp o Q R) (hq : ∀ a e s, Q a e s → Q' a e s) (hr : ∀ c w e s, R c w e s → R' c w e s) : Wp o Q' R' := by
  cases o with
  | ok a e s => exact hq _ _ _ h
  | raise c w e s => exact hr _ _ _ _ h
  | bad => exact h
theorem Fn.mono {r : Res} {Q Q' : PV → Stt → Prop} {R R' : Str → PV → Stt → Prop} (h : Fn r Q R) (hq : ∀ a s, Q a s → Q' a s) (hr : ∀ c w s, R c w s → R' c w s) : Fn r Q' R' := by
  cases r with
  | ok a s => exact hq _ _ h
  | raise c w s => exact hr _ _ _ h
  | bad => exact h
theorem Fn.ok {r : Res} {Q : PV → Stt → Prop} (h : Fn r Q noR) : ∃ p s, r = .ok p s ∧ Q p s := by
  cases r with
  | ok a s => exact ⟨a, s, rfl, h⟩
  | raise c w s => exact h.elim
  | bad => exact h.elim
theorem Fn.of {r : Res} {Q : PV → Stt → Prop} {R : Str → PV → Stt → Prop} {p : PV} {s : Stt} (e : r = .ok p s) (h : Q p s) : Fn r Q R := by
  rw [e]
  exact h
theorem Fn.ofR {r : Res} {Q : PV → Stt → Prop} {R : Str → PV → Stt → Prop} {c : Str} {w : PV} {s : Stt} (e : r = .raise c w s) (h : R c w s) : Fn r Q R := by
  rw [e]
  exact h
theorem wp_ret {a : α} {Q : Pq α} (h : Q a e s) : Wp (ret a e s) Q R := h
theorem wp_ok {a : α} {Q : Pq α} (h : Q a e s) : Wp (.ok a e s) Q R := h
theorem wp_bnd {d : Cd α} {k : α → Cd β} {Q : Pq β} (h : Wp (d e s) (fun a e s => Wp (k a e s) Q R) R) : Wp (bnd d k e s) Q R := by
  unfold bnd
  cases q : d e s with
  | ok a e1 s1 => rw [q] at h; exact h
  | raise c w e1 s1 => rw [q] at h; exact h
  | bad => rw [q] at h; exact h
theorem wp_lift {o : Option α} {a : α} {Q : Pq α} (h : o = some a) (hq : Q a e s) : Wp (lift o e s) Q R := by
  subst h
  exact hq
/-! expressions -/
variable {Q : Pq PV}
theorem wp_use {i : Nat} {p : PV} (h : e[i]? = some (.val p)) (hq : Q p e s) : Wp (dUse i e s) Q R := by
  unfold dUse
  rw [h]
  exact hq
theorem wp_useO {i : Nat} {xs : List PV} (h : e[i]? = some (.own xs)) (hq : Q (.lst xs) (e.set i (.val (.lst xs))) s) : Wp (dUse i e s) Q R := by
  unfold dUse
  rw [h]
  exact hq
theorem wp_op {f : Stt → PV → PV → Option PV} {a b : Cd PV} (h : Wp (a e s) (fun p e s => Wp (b e s) (fun q e s => ∃ w, f s p q = some w ∧ Q w e s) R) R) : Wp (dOp f a b e s) Q R := by
  refine wp_bnd (Wp.mono h (fun p e1 s1 h1 => wp_bnd (Wp.mono h1 (fun q e2 s2 ⟨w, e3, h2⟩ => ?_) fun _ _ _ _ h => h)) fun _ _ _ _ h => h)
  show Wp (match f s2 p q with | some w => Out.ok w e2 s2 | none => .bad) Q R
  rw [e3]
  exact h2
theorem wp_un {f : PV → Option PV} {a : Cd PV} (h : Wp (a e s) (fun p e s => ∃ w, f p = some w ∧ Q w e s) R) : Wp (dUn f a e s) Q R :=
  wp_bnd (Wp.mono h (fun p e1 s1 ⟨w, e3, h2⟩ => wp_lift e3 h2) fun _ _ _ _ h => h)
theorem wp_nil {Q : Pq (List PV)} (h : Q [] e s) : Wp (dNil e s) Q R := h
theorem wp_cons {a : Cd PV} {r : Cd (List PV)} {Q : Pq (List PV)} (h : Wp (a e s) (fun p e s => Wp (r e s) (fun ps e s => Q (p :: ps) e s) R) R) : Wp (dCons a r e s) Q R :=
  wp_bnd (Wp.mono h (fun p e1 s1 h1 => wp_bnd h1) fun _ _ _ _ h => h)
theorem wp_tup {d : Cd (List PV)} (h : Wp (d e s) (fun ps e s => ps.length ≤ sizeLine ∧ Q (.tup ps) e s) R) : Wp (dTup d e s) Q R :=
  wp_bnd (Wp.mono h (fun ps e1 s1 ⟨hl, h1⟩ => by rw [if_pos hl]; exact h1) fun _ _ _ _ h => h)
theorem wp_disp {d : Cd (List PV)} {Q : Pq (List PV)} (h : Wp (d e s) (fun ps e s => ps.length ≤ sizeLine ∧ Q ps e s) R) : Wp (dDisp d e s) Q R :=
  wp_bnd (Wp.mono h (fun ps e1 s1 ⟨hl, h1⟩ => by rw [if_pos hl]; exact h1) fun _ _ _ _ h => h)
theorem wp_frz {d : Cd (List PV)} (h : Wp (d e s) (fun ps e s => Q (.lst ps) e s) R) : Wp (dFrz d e s) Q R := wp_bnd h
theorem wp_new {d : Cd (List PV)} (h : Wp (d e s) (fun xs e s => Q (.ref s.length) e (s ++ [.lst xs])) R) : Wp (dNew d e s) Q R := wp_bnd h
theorem wp_b {d : Cd PV} {Q : Pq Bool} (h : Wp (d e s) (fun p e s => ∃ b, asB p = some b ∧ Q b e s) R) : Wp (dB d e s) Q R :=
  wp_bnd (Wp.mono h (fun p e1 s1 ⟨w, e3, h2⟩ => wp_lift e3 h2) fun _ _ _ _ h => h)
theorem wp_tru {d : Cd PV} {Q : Pq Bool} (h : Wp (d e s) (fun p e s => ∃ b, tru s p = some b ∧ Q b e s) R) : Wp (dTru d e s) Q R :=
  wp_bnd (Wp.mono h (fun p e1 s1 ⟨w, e3, h2⟩ => by
    show Wp (match tru s1 p with | some b => Out.ok b e1 s1 | none => .bad) Q R
    rw [e3]
    exact h2) fun _ _ _ _ h => h)
theorem wp_notT {d : Cd Bool} {Q : Pq Bool} (h : Wp (d e s) (fun b e s => Q (!b) e s) R) : Wp (dNotT d e s) Q R := wp_bnd h
theorem wp_andT {d r : Cd Bool} {Q : Pq Bool} (h : Wp (d e s) (fun b e s => (b = true → Wp (r e s) Q R) ∧ (b = false → Q false e s)) R) : Wp (dAndT d r e s) Q R :=
  wp_bnd (Wp.mono h (fun b e1 s1 h1 => by
    cases b with
    | true => exact h1.1 rfl
    | false => exact h1.2 rfl) fun _ _ _ _ h => h)
theorem wp_orT {d r : Cd Bool} {Q : Pq Bool} (h : Wp (d e s) (fun b e s => (b = true → Q true e s) ∧ (b = false → Wp (r e s) Q R)) R) : Wp (dOrT d r e s) Q R :=
  wp_bnd (Wp.mono h (fun b e1 s1 h1 => by
    cases b with
    | true => exact h1.1 rfl
    | false => exact h1.2 rfl) fun _ _ _ _ h => h)
theorem wp_andV {d r : Cd PV} (h : Wp (d e s) (fun p e s => ∃ b, asB p = some b ∧ (b = true → Wp (r e s) Q R) ∧ (b = false → Q (.bl false) e s)) R) : Wp (dAndV d r e s) Q R :=
  wp_bnd (wp_b (Wp.mono h (fun p e1 s1 ⟨b, hb, h1⟩ => ⟨b, hb, by
    cases b with
    | true => exact h1.1 rfl
    | false => exact h1.2 rfl⟩) fun _ _ _ _ h => h))
theorem wp_orV {d r : Cd PV} (h : Wp (d e s) (fun p e s => ∃ b, asB p = some b ∧ (b = true → Q (.bl true) e s) ∧ (b = false → Wp (r e s) Q R)) R) : Wp (dOrV d r e s) Q R :=
  wp_bnd (wp_b (Wp.mono h (fun p e1 s1 ⟨b, hb, h1⟩ => ⟨b, hb, by
    cases b with
    | true => exact h1.1 rfl
    | false => exact h1.2 rfl⟩) fun _ _ _ _ h => h))
theorem wp_notV {d : Cd PV} (h : Wp (d e s) (fun p e s => ∃ b, asB p = some b ∧ Q (.bl (!b)) e s) R) : Wp (dNotV d e s) Q R := wp_bnd (wp_b h)
theorem wp_ife {t : Cd Bool} {a b : Cd PV} (h : Wp (t e s) (fun k e s => (k = true → Wp (a e s) Q R) ∧ (k = false → Wp (b e s) Q R)) R) : Wp (dIfE t a b e s) Q R :=
  wp_bnd (Wp.mono h (fun b e1 s1 h1 => by
    cases b with
    | true => exact h1.1 rfl
    | false => exact h1.2 rfl) fun _ _ _ _ h => h)
theorem wp_chain {f f' : Stt → PV → PV → Option PV} {a b c : Cd PV} (h : Wp (a e s) (fun p e s => Wp (b e s) (fun q e s => ∃ k, f s p q = some (.bl k) ∧ (k = true → Wp (c e s) (fun r e s => ∃ w, f' s q r = some w ∧ Q w e s) R) ∧ (k = false → Q (.bl false) e s)) R) R) : Wp (dChain f f' a b c e s) Q R := by
  refine wp_bnd (Wp.mono h (fun p e1 s1 h1 => wp_bnd (Wp.mono h1 (fun q e2 s2 ⟨k, e3, h2, h3⟩ => ?_) fun _ _ _ _ h => h)) fun _ _ _ _ h => h)
  show Wp (match f s2 p q with
    | some (.bl true) => bnd c (fun r => fun e' s' => match f' s' q r with | some w => .ok w e' s' | none => .bad) e2 s2
    | some (.bl false) => .ok (.bl false) e2 s2
    | _ => .bad) Q R
  rw [e3]
  cases k with
  | false => exact h3 rfl
  | true =>
    refine wp_bnd (Wp.mono (h2 rfl) (fun r e4 s4 ⟨w, e5, h5⟩ => ?_) fun _ _ _ _ h => h)
    show Wp (match f' s4 q r with | some w => Out.ok w e4 s4 | none => .bad) Q R
    rw [e5]
    exact h5
theorem wp_fn {g : Stt → List PV → Option PV} {d : Cd (List PV)} (h : Wp (d e s) (fun ps e s => ∃ w, g s ps = some w ∧ Q w e s) R) : Wp (dFn g d e s) Q R :=
  wp_bnd (Wp.mono h (fun ps e1 s1 ⟨w, e3, h2⟩ => by
    show Wp (match g s1 ps with | some w => Out.ok w e1 s1 | none => .bad) Q R
    rw [e3]
    exact h2) fun _ _ _ _ h => h)
theorem wp_call {n : Nat} {den : List PV → Stt → Res} {d : Cd (List PV)} (h : Wp (d e s) (fun ps e s => ps.length = n ∧ Fn (den ps s) (fun p s => Q p e s) (fun c w s => R c w e s)) R) : Wp (dCall n den d e s) Q R :=
  wp_bnd (Wp.mono h (fun ps e1 s1 ⟨hl, h1⟩ => by
    rw [if_pos hl]
    show Wp (match den ps s1 with | .ok p s' => Out.ok p e1 s' | .raise c w s' => .raise c w e1 s' | .bad => .bad) Q R
    cases q : den ps s1 with
    | ok p s2 => rw [q] at h1; exact h1
    | raise c w s2 => rw [q] at h1; exact h1
    | bad => rw [q] at h1; exact h1) fun _ _ _ _ h => h)
theorem wp_noPart {Q : Pq (Option Int)} (h : Q none e s) : Wp (dNoPart e s) Q R := h
theorem wp_part {d : Cd PV} {Q : Pq (Option Int)} (h : Wp (d e s) (fun p e s => ∃ i, p = .int i ∧ Q (some i) e s) R) : Wp (dPart d e s) Q R :=
  wp_bnd (Wp.mono h (fun p e1 s1 ⟨i, e3, h2⟩ => by
    subst e3
    exact h2) fun _ _ _ _ h => h)
theorem wp_cut {d : Cd PV} {l h' : Cd (Option Int)} (h : Wp (d e s) (fun p e s => Wp (l e s) (fun l e s => Wp (h' e s) (fun u e s => ∃ w, pCut s p l u = some w ∧ Q w e s) R) R) R) : Wp (dCut d l h' e s) Q R :=
  wp_bnd (Wp.mono h (fun p e1 s1 h1 => wp_bnd (Wp.mono h1 (fun l e2 s2 h2 => wp_bnd (Wp.mono h2 (fun u e3 s3 ⟨w, e4, h3⟩ => by
    show Wp (match pCut s3 p l u with | some w => Out.ok w e3 s3 | none => .bad) Q R
    rw [e4]
    exact h3) fun _ _ _ _ h => h)) fun _ _ _ _ h => h)) fun _ _ _ _ h => h)
theorem wp_list {d : Cd PV} {Q : Pq (List PV)} (h : Wp (d e s) (fun p e s => ∃ xs, itemsOf s p = some xs ∧ Q xs e s) R) : Wp (dListF d e s) Q R :=
  wp_bnd (Wp.mono h (fun p e1 s1 ⟨w, e3, h2⟩ => by
    show Wp (match itemsOf s1 p with | some w => Out.ok w e1 s1 | none => .bad) Q R
    rw [e3]
    exact h2) fun _ _ _ _ h => h)
theorem wp_mthO {i : Nat} {mf : List PV → List PV → Option (PV × List PV)} {d : Cd (List PV)} {ys : List PV} (h0 : e[i]? = some (.own ys))
    (h : Wp (d e s) (fun ps e s => ∃ xs w xs', e[i]? = some (.own xs) ∧ mf xs ps = some (w, xs') ∧ Q w (e.set i (.own xs')) s) R) : Wp (dMthO i mf d e s) Q R := by
  unfold dMthO
  simp only [h0]
  refine wp_bnd (Wp.mono h (fun ps e1 s1 ⟨xs, w, xs', q1, q2, h1⟩ => ?_) fun _ _ _ _ h => h)
  simp only [q1, q2]
  exact h1
theorem wp_mthR {mf : List PV → List PV → Option (PV × List PV)} {o : Cd PV} {d : Cd (List PV)} (h : Wp (o e s) (fun p e s => ∃ n ys, p = .ref n ∧ s[n]? = some (.lst ys) ∧ Wp (d e s) (fun ps e s => ∃ xs w xs', s[n]? = some (.lst xs) ∧ mf xs ps = some (w, xs') ∧ Q w e (s.set n (.lst xs'))) R) R) : Wp (dMthR mf o d e s) Q R := by
  refine wp_bnd (Wp.mono h (fun p e1 s1 ⟨n, ys, e2, h2, h3⟩ => ?_) fun _ _ _ _ h => h)
  subst e2
  simp only [h2]
  refine wp_bnd (Wp.mono h3 (fun ps e4 s4 ⟨xs, w, xs', q1, q2, h1⟩ => ?_) fun _ _ _ _ h => h)
  simp only [q1, q2]
  exact h1
/-! statements -/
variable {QS : Pq Flw} {d : Cd PV}
theorem wp_nxt (h : QS .next e s) : Wp (nxt e s) QS R := h
theorem wp_seq {a b : Cd Flw} (h : Wp (a e s) (SQ (fun e s => Wp (b e s) QS R) QS) R) : Wp (dSeq a b e s) QS R :=
  wp_bnd (Wp.mono h (fun f e1 s1 h1 => by cases f <;> exact h1) fun _ _ _ _ h => h)
theorem wp_drop (h : Wp (d e s) (fun _ e s => QS .next e s) R) : Wp (dDrop d e s) QS R := wp_bnd h
theorem wp_dret (h : Wp (d e s) (fun p e s => QS (.ret p) e s) R) : Wp (dRet d e s) QS R := wp_bnd h
theorem wp_if {t : Cd Bool} {a b : Cd Flw} (h : Wp (t e s) (fun k e s => (k = true → Wp (a e s) QS R) ∧ (k = false → Wp (b e s) QS R)) R) : Wp (dIf t a b e s) QS R :=
  wp_bnd (Wp.mono h (fun b e1 s1 h1 => by
    cases b with
    | true => exact h1.1 rfl
    | false => exact h1.2 rfl) fun _ _ _ _ h => h)
theorem wp_set {i : Nat} (h : Wp (d e s) (fun p e s => QS .next (e.set i (.val p)) s) R) : Wp (dSet i d e s) QS R := wp_bnd h
theorem wp_own {i : Nat} {d : Cd (List PV)} (h : Wp (d e s) (fun xs e s => QS .next (e.set i (.own xs)) s) R) : Wp (dOwn i d e s) QS R := wp_bnd h
theorem wp_asg {g : PV → Cd Unit} (h : Wp (d e s) (fun p e s => Wp (g p e s) (fun _ e s => QS .next e s) R) R) : Wp (dAsg d g e s) QS R :=
  wp_bnd (Wp.mono h (fun p e1 s1 h1 => wp_bnd h1) fun _ _ _ _ h => h)
theorem wp_gset {i : Nat} {p : PV} {Q : Pq Unit} (h : Q () (e.set i (.val p)) s) : Wp (gSet i p e s) Q R := h
theorem wp_gtup {n : Nat} {gs : List PV → Cd Unit} {p : PV} {ps : List PV} {Q : Pq Unit} (hp : p = .tup ps) (hl : ps.length = n) (h : Wp (gs ps e s) Q R) : Wp (gTupD n gs p e s) Q R := by
  subst hp
  unfold gTupD
  simp only [hl, if_true]
  exact h
theorem wp_gcons {g : PV → Cd Unit} {gs : List PV → Cd Unit} {p : PV} {ps : List PV} {Q : Pq Unit} (h : Wp (g p e s) (fun _ e s => Wp (gs ps e s) Q R) R) : Wp (gsCons g gs (p :: ps) e s) Q R := wp_bnd h
theorem wp_gnil {Q : Pq Unit} (h : Q () e s) : Wp (gsNil [] e s) Q R := h
theorem wp_par {i j : Nat} {d : Cd (List PV)} (h : Wp (d e s) (fun ps e s => ∃ p q, ps = [p, q] ∧ QS .next ((e.set i (.val p)).set j (.val q)) s) R) : Wp (dPar i j d e s) QS R :=
  wp_bnd (Wp.mono h (fun ps e1 s1 ⟨p, q, e2, h2⟩ => by
    subst e2
    exact h2) fun _ _ _ _ h => h)
theorem wp_setO {i : Nat} {di dv : Cd PV} (h : Wp (dv e s) (fun w e s => ∃ ys, e[i]? = some (.own ys) ∧ Wp (di e s) (fun k e s => ∃ xs j m, e[i]? = some (.own xs) ∧ k = .int j ∧ ixN xs.length j = some m ∧ QS .next (e.set i (.own (xs.set m w))) s) R) R) : Wp (dSetO i di dv e s) QS R := by
  refine wp_bnd (Wp.mono h (fun w e1 s1 ⟨ys, q0, h1⟩ => ?_) fun _ _ _ _ h => h)
  simp only [q0]
  refine wp_bnd (Wp.mono h1 (fun k e2 s2 ⟨xs, j, m, q1, q2, q3, h2⟩ => ?_) fun _ _ _ _ h => h)
  subst q2
  simp only [q1, q3]
  exact h2
theorem wp_setR {o di dv : Cd PV} (h : Wp (dv e s) (fun w e s => Wp (o e s) (fun p e s => Wp (di e s) (fun k e s => ∃ n xs j m, p = .ref n ∧ k = .int j ∧ s[n]? = some (.lst xs) ∧ ixN xs.length j = some m ∧ QS .next e (s.set n (.lst (xs.set m w)))) R) R) R) : Wp (dSetR o di dv e s) QS R := by
  refine wp_bnd (Wp.mono h (fun w e1 s1 h1 => wp_bnd (Wp.mono h1 (fun p e2 s2 h2 => wp_bnd (Wp.mono h2 (fun k e3 s3 ⟨n, xs, j, m, q1, q2, q3, q4, h3⟩ => ?_) fun _ _ _ _ h => h)) fun _ _ _ _ h => h)) fun _ _ _ _ h => h)
  subst q1 q2
  simp only [q3, q4]
  exact h3
theorem wp_raise {c : Str} (h : Wp (d e s) (fun p e s => R c p e s) R) : Wp (dRaise c d e s) QS R := wp_bnd h
/-! loops -/
theorem wp_forL {g : PV → Cd Unit} {b : Cd Flw} (I : Nat → Env → Stt → Prop) : ∀ (ps : List PV) (n : Nat) (e : Env) (s : Stt), I n e s →
    (∀ (i : Nat) (p : PV) (e : Env) (s : Stt), ps[i]? = some p → I (n + i) e s → Wp (g p e s) (fun _ e s => Wp (b e s) (LQ (I (n + i + 1)) QS) R) R) → (∀ e s, I (n + ps.length) e s → QS .next e s) → Wp (dForL g b ps e s) QS R
  | [], n, e, s, h0, _, h2 => h2 e s (by simpa using h0)
  | p :: ps, n, e, s, h0, h1, h2 => by
    refine wp_bnd (Wp.mono (h1 0 p e s rfl (by simpa using h0)) (fun _ e1 s1 q1 => wp_bnd (Wp.mono q1 (fun f e2 s2 q2 => ?_) fun _ _ _ _ h => h)) fun _ _ _ _ h => h)
    have next : I (n + 1) e2 s2 → Wp (dForL g b ps e2 s2) QS R := fun hi => wp_forL I ps (n + 1) e2 s2 hi (fun i p e s hp hI => by
      have e1 : n + 1 + i = n + (i + 1) := by omega
      rw [e1] at hI ⊢
      exact h1 (i + 1) p e s (by simpa using hp) hI) (fun e s hI => h2 e s (by
      have e1 : n + (p :: ps).length = n + 1 + ps.length := by simp; omega
      rw [e1]
      exact hI))
    cases f with
    | next => exact next q2
    | cont => exact next q2
    | brk => exact q2
    | ret v => exact q2
theorem wp_for {it : Cd (List PV)} {g : PV → Cd Unit} {b : Cd Flw} (h : Wp (it e s) (fun ps e s => ∃ I : Nat → Env → Stt → Prop, I 0 e s ∧ (∀ (i : Nat) (p : PV) (e : Env) (s : Stt), ps[i]? = some p → I i e s → Wp (g p e s) (fun _ e s => Wp (b e s) (LQ (I (i + 1)) QS) R) R) ∧ ∀ e s, I ps.length e s → QS .next e s) R) :
    Wp (dFor it g b e s) QS R :=
  wp_bnd (Wp.mono h (fun ps e1 s1 ⟨I, h0, h1, h2⟩ => wp_forL I ps 0 e1 s1 h0 (fun i p e s hp hI => by
    rw [Nat.zero_add] at hI ⊢
    exact h1 i p e s hp hI) (fun e s hI => h2 e s (by rw [Nat.zero_add] at hI; exact hI))) fun _ _ _ _ h => h)
theorem wp_items {Q : Pq (List PV)} (h : Wp (d e s) (fun p e s => ∃ xs, itemsF p = some xs ∧ Q xs e s) R) : Wp (dItems d e s) Q R := wp_bnd (Wp.mono h (fun p e1 s1 ⟨xs, q, h1⟩ => wp_lift q h1) fun _ _ _ _ h => h)
theorem wp_rng1 {d : Cd (List PV)} {Q : Pq (List PV)} (h : Wp (d e s) (fun ps e s => ∃ xs, rng1 ps = some xs ∧ Q xs e s) R) : Wp (dRng1 d e s) Q R := wp_bnd (Wp.mono h (fun p e1 s1 ⟨xs, q, h1⟩ => wp_lift q h1) fun _ _ _ _ h => h)
theorem wp_rng2 {d : Cd (List PV)} {Q : Pq (List PV)} (h : Wp (d e s) (fun ps e s => ∃ xs, rng2 ps = some xs ∧ Q xs e s) R) : Wp (dRng2 d e s) Q R := wp_bnd (Wp.mono h (fun p e1 s1 ⟨xs, q, h1⟩ => wp_lift q h1) fun _ _ _ _ h => h)
theorem wp_zip {d : Cd (List PV)} {Q : Pq (List PV)} (h : Wp (d e s) (fun ps e s => ∃ xs, zip2 ps = some xs ∧ Q xs e s) R) : Wp (dZip d e s) Q R := wp_bnd (Wp.mono h (fun p e1 s1 ⟨xs, q, h1⟩ => wp_lift q h1) fun _ _ _ _ h => h)
theorem wp_while {c : Cd Bool} {b : Cd Flw} (I : Env → Stt → Prop) (m : Env → Stt → Nat) (h0 : I e s)
    (h1 : ∀ e s, I e s → Wp (c e s) (fun k e1 s1 => (k = true → Wp (b e1 s1) (LQ (fun e2 s2 => I e2 s2 ∧ m e2 s2 < m e s) QS) R) ∧ (k = false → QS .next e1 s1)) R) : Wp (dWhile c b e s) QS R := by
  suffices h : ∀ (n : Nat) (e : Env) (s : Stt), m e s < n → I e s → Wp (iterW c b n e s) QS R by
    have q := h (m e s + 1) e s (Nat.lt_succ_self _) h0
    have hb : iterW c b (m e s + 1) e s ≠ .bad := fun z => by rw [z] at q; exact q
    rw [dWhile_of rfl hb]
    exact q
  intro n
  induction n with
  | zero => intro e s h; exact absurd h (Nat.not_lt_zero _)
  | succ n ih =>
    intro e s hm hI
    refine wp_bnd (Wp.mono (h1 e s hI) (fun k e1 s1 ⟨q1, q2⟩ => ?_) fun _ _ _ _ h => h)
    cases k with
    | false => exact q2 rfl
    | true =>
      rw [if_pos rfl]
      refine wp_bnd (Wp.mono (q1 rfl) (fun f e2 s2 q3 => ?_) fun _ _ _ _ h => h)
      cases f with
      | next => exact ih e2 s2 (Nat.lt_of_lt_of_le q3.2 (Nat.le_of_lt_succ hm)) q3.1
      | cont => exact ih e2 s2 (Nat.lt_of_lt_of_le q3.2 (Nat.le_of_lt_succ hm)) q3.1
      | brk => exact q3
      | ret v => exact q3
theorem fn_run {n k : Nat} {b : Cd Flw} {ps : List PV} {s : Stt} {Q : PV → Stt → Prop} {R : Str → PV → Stt → Prop} (hl : ps.length = k) (h : Wp (b (ps.map Slot.val ++ List.replicate (n - k) Slot.none) s) (FQ Q) (fun c w _ s => R c w s)) : Fn (runD n k b ps s) Q R := by
  unfold runD
  rw [if_pos hl]
  cases q : b (ps.map Slot.val ++ List.replicate (n - k) Slot.none) s with
  | bad => rw [q] at h; exact h
  | raise c w e s => rw [q] at h; exact h
  | ok f e s =>
    rw [q] at h
    cases f <;> exact h
/-! comprehensions -/
theorem wp_compL {own : List Nat} {g : PV → Cd Unit} {t : Cd Bool} {d : Cd PV} {QL : Pq (List PV)} (I : Nat → List PV → Env → Stt → Prop) : ∀ (ps : List PV) (n : Nat) (acc : List PV) (e : Env) (s : Stt), I n acc e s →
    (∀ (i : Nat) (p : PV) (acc : List PV) (e : Env) (s : Stt), ps[i]? = some p → I (n + i) acc e s → Wp (g p e s) (fun _ e s => Wp (t e s) (fun k e s => (k = true → Wp (d e s) (fun w e s => acc.length < sizeLine ∧ I (n + i + 1) (acc ++ [w]) (wipeE e own) s) R) ∧ (k = false → I (n + i + 1) acc (wipeE e own) s)) R) R) →
    (∀ acc e s, I (n + ps.length) acc e s → QL acc e s) → Wp (compL own g t d ps acc e s) QL R
  | [], n, acc, e, s, h0, _, h2 => h2 acc e s (by simpa using h0)
  | p :: ps, n, acc, e, s, h0, h1, h2 => by
    have go : ∀ (acc : List PV) (e : Env) (s : Stt), I (n + 1) acc e s → Wp (compL own g t d ps acc e s) QL R := fun acc e s hi => wp_compL I ps (n + 1) acc e s hi (fun i p acc e s hp hI => by
      have e1 : n + 1 + i = n + (i + 1) := by omega
      rw [e1] at hI ⊢
      exact h1 (i + 1) p acc e s (by simpa using hp) hI) (fun acc e s hI => h2 acc e s (by
      have e1 : n + (p :: ps).length = n + 1 + ps.length := by simp; omega
      rw [e1]
      exact hI))
    refine wp_bnd (Wp.mono (h1 0 p acc e s rfl (by simpa using h0)) (fun _ e1 s1 q1 => wp_bnd (Wp.mono q1 (fun k e2 s2 ⟨q2, q3⟩ => ?_) fun _ _ _ _ h => h)) fun _ _ _ _ h => h)
    cases k with
    | false =>
      rw [if_neg Bool.false_ne_true]
      exact go acc (wipeE e2 own) s2 (q3 rfl)
    | true =>
      rw [if_pos rfl]
      refine wp_bnd (Wp.mono (q2 rfl) (fun w e3 s3 ⟨hl, q4⟩ => ?_) fun _ _ _ _ h => h)
      rw [if_pos hl]
      exact go (acc ++ [w]) (wipeE e3 own) s3 q4
theorem wp_comp {items : Cd (List PV)} {own : List Nat} {g : PV → Cd Unit} {t : Cd Bool} {d : Cd PV} {QL : Pq (List PV)}
    (h : Wp (items e s) (fun ps e1 s => ∃ I : Nat → List PV → Env → Stt → Prop, I 0 [] (wipeE e1 own) s ∧
      (∀ (i : Nat) (p : PV) (acc : List PV) (e : Env) (s : Stt), ps[i]? = some p → I i acc e s → Wp (g p e s) (fun _ e s => Wp (t e s) (fun k e s => (k = true → Wp (d e s) (fun w e s => acc.length < sizeLine ∧ I (i + 1) (acc ++ [w]) (wipeE e own) s) (fun _ _ _ _ => False)) ∧ (k = false → I (i + 1) acc (wipeE e own) s)) (fun _ _ _ _ => False)) (fun _ _ _ _ => False)) ∧
      ∀ acc e2 s, I ps.length acc e2 s → QL acc (restE e1 e2 own) s) R) : Wp (dComp items own g t d e s) QL R := by
  refine wp_bnd (Wp.mono h (fun ps e1 s1 ⟨I, h0, h1, h2⟩ => ?_) fun _ _ _ _ h => h)
  have q := wp_compL (R := fun _ _ _ _ => False) (QL := fun acc e2 s => QL acc (restE e1 e2 own) s) (own := own) (g := g) (t := t) (d := d) I ps 0 [] (wipeE e1 own) s1 h0 (fun i p acc e s hp hI => by
    rw [Nat.zero_add] at hI ⊢
    exact h1 i p acc e s hp hI) (fun acc e s hI => h2 acc e s (by rw [Nat.zero_add] at hI; exact hI))
  show Wp (match compL own g t d ps [] (wipeE e1 own) s1 with | .ok xs e2 s2 => Out.ok xs (restE e1 e2 own) s2 | _ => .bad) QL R
  cases r : compL own g t d ps [] (wipeE e1 own) s1 with
  | ok xs e2 s2 => rw [r] at q; exact q
  | raise c w e2 s2 => rw [r] at q; exact q.elim
  | bad => rw [r] at q; exact q.elim
end
theorem wp_try1 {tab : List Str} {h : Str} {i : Nat} {dd : Str → Addr → Addr → Cd Flw} {d : Cd Flw} {e : Env} {s : Stt} {QS : Pq Flw} {R : Pr}
    (hd : Wp (d e s) QS (fun c w e s => tab.contains c = true ∧ catches h c = true ∧ ∃ o : Out Flw, (∀ a b, clearO i (dd c a b (e.set i (.exc a b w)) s) = o) ∧ Wp o QS R)) : Wp (dTry tab [⟨h, some i, dd⟩] d e s) QS R := by
  unfold dTry
  cases q : d e s with
  | bad => rw [q] at hd; exact hd
  | ok f e1 s1 => rw [q] at hd; exact hd
  | raise c w e1 s1 =>
    rw [q] at hd
    obtain ⟨h1, h2, o, h3, h4⟩ := hd
    simp only [h1, if_true]
    unfold hdl
    rw [if_pos h2]
    simp only [h3, implies_true, if_true]
    exact h4
end FS

set_option Elab.async false
set_option linter.all false
set_option maxRecDepth 100000
/-! FsAuto: running a denotation, step by step. -/
namespace FS
open PySem L2

section
variable {e : Env} {s : Stt} {Q : PV → Prop} {a b : Int}
theorem x_add (h : Q (.int (a + b))) : ∃ w, pAdd s (.int a) (.int b) = some w ∧ Q w := ⟨_, rfl, h⟩
theorem x_sub (h : Q (.int (a - b))) : ∃ w, pSub s (.int a) (.int b) = some w ∧ Q w := ⟨_, rfl, h⟩
theorem x_lt (h : Q (.bl (decide (a < b)))) : ∃ w, pLt s (.int a) (.int b) = some w ∧ Q w := ⟨_, rfl, h⟩
theorem x_le (h : Q (.bl (decide (a ≤ b)))) : ∃ w, pLe s (.int a) (.int b) = some w ∧ Q w := ⟨_, rfl, h⟩
theorem x_gt (h : Q (.bl (decide (b < a)))) : ∃ w, pGt s (.int a) (.int b) = some w ∧ Q w := ⟨_, rfl, h⟩
theorem x_ge (h : Q (.bl (decide (b ≤ a)))) : ∃ w, pGe s (.int a) (.int b) = some w ∧ Q w := ⟨_, rfl, h⟩
theorem pMul_int (hc : okMul a b = true) : pMul s (.int a) (.int b) = some (.int (a * b)) := by
  show (if okMul a b = true then some (PV.int (a * b)) else none).or _ = _
  rw [if_pos hc]
  rfl
theorem x_mul (hc : okMul a b = true) (h : Q (.int (a * b))) : ∃ w, pMul s (.int a) (.int b) = some w ∧ Q w := ⟨_, pMul_int hc, h⟩
theorem okMul_l (h : -18446744073709551616 < a ∧ a < 18446744073709551616) : okMul a b = true := by
  unfold okMul
  simp [h.1, h.2]
theorem okMul_r (h : -18446744073709551616 < b ∧ b < 18446744073709551616) : okMul a b = true := by
  unfold okMul
  simp [h.1, h.2]
theorem x_div (h0 : 0 < b) (h1 : b < 1000000000000000000000) (h : Q (.int (a / b))) : ∃ w, pDiv s (.int a) (.int b) = some w ∧ Q w := by
  refine ⟨_, ?_, h⟩
  show (if okDiv b = true then _ else _) = _
  rw [if_pos]
  unfold okDiv
  simp [h0, h1]
theorem x_mod (h0 : 0 < b) (h : Q (.int (a % b))) : ∃ w, pMod s (.int a) (.int b) = some w ∧ Q w := by
  refine ⟨_, ?_, h⟩
  show (if decide (0 < b) = true then _ else _) = _
  rw [if_pos (decide_eq_true h0)]
theorem x_pow (hc : okPow a b = true) (h : Q (.int (a ^ b.toNat))) : ∃ w, pPow s (.int a) (.int b) = some w ∧ Q w := by
  refine ⟨_, ?_, h⟩
  show (if okPow a b = true then _ else _) = _
  rw [if_pos hc]
theorem eqv_int : eqv (.int a) (.int b) = decide (a = b) := by
  unfold eqv PV.toD PyData.eqv
  exact Bool.eq_iff_iff.mpr (by simp)
theorem x_eq (h : Q (.bl (decide (a = b)))) : ∃ w, pEq s (.int a) (.int b) = some w ∧ Q w := ⟨_, rfl, by
  show Q (.bl (eqv (.int a) (.int b)))
  rw [eqv_int]
  exact h⟩
theorem x_ne (h : Q (.bl (!decide (a = b)))) : ∃ w, pNe s (.int a) (.int b) = some w ∧ Q w := ⟨_, rfl, by
  show Q (.bl (!eqv (.int a) (.int b)))
  rw [eqv_int]
  exact h⟩
theorem x_ixL {xs : List PV} {p w : PV} (hp : res s p = .lst xs) (hw : atI xs a = some w) (h : Q w) : ∃ w, pIx s p (.int a) = some w ∧ Q w := ⟨w, by unfold pIx; rw [hp]; exact hw, h⟩
theorem x_ixT {xs : List PV} {w : PV} (hw : atI xs a = some w) (h : Q w) : ∃ w, pIx s (.tup xs) (.int a) = some w ∧ Q w := ⟨w, hw, h⟩
theorem x_chain {k : Bool} {o : Option PV} {A : Bool → Prop} (hf : o = some (.bl k)) (h : A k) : ∃ k, o = some (.bl k) ∧ A k := ⟨k, hf, h⟩
theorem x_neg (h : Q (.int (-a))) : ∃ w, pNeg (.int a) = some w ∧ Q w := ⟨_, rfl, h⟩
theorem x_bl {k : Bool} {Q : Bool → Prop} (h : Q k) : ∃ b, asB (.bl k) = some b ∧ Q b := ⟨_, rfl, h⟩
theorem x_truB {k : Bool} {Q : Bool → Prop} (h : Q k) : ∃ b, tru s (.bl k) = some b ∧ Q b := ⟨_, rfl, h⟩
end

theorem wp_sq {K : Env → Stt → Prop} {Q : Pq Flw} {e : Env} {s : Stt} (h : K e s) : SQ K Q .next e s := h
theorem wp_sqr {K : Env → Stt → Prop} {Q : Pq Flw} {p : PV} {e : Env} {s : Stt} (h : Q (.ret p) e s) : SQ K Q (.ret p) e s := h
theorem wp_lq {I : Env → Stt → Prop} {Q : Pq Flw} {e : Env} {s : Stt} (h : I e s) : LQ I Q .next e s := h
theorem wp_lqr {I : Env → Stt → Prop} {Q : Pq Flw} {p : PV} {e : Env} {s : Stt} (h : Q (.ret p) e s) : LQ I Q (.ret p) e s := h
theorem wp_fqn {Q : PV → Stt → Prop} {e : Env} {s : Stt} (h : Q .non s) : FQ Q .next e s := h
theorem wp_fqr {Q : PV → Stt → Prop} {p : PV} {e : Env} {s : Stt} (h : Q p s) : FQ Q (.ret p) e s := h
theorem x_spl {k : Bool} {A B : Prop} (h1 : k = true → A) (h2 : k = false → B) : (k = true → A) ∧ (k = false → B) := ⟨h1, h2⟩
theorem x_val {o : Option PV} {w : PV} {Q : PV → Prop} (hf : o = some w) (h : Q w) : ∃ w, o = some w ∧ Q w := ⟨w, hf, h⟩
theorem x_ix {s : Stt} {p q w : PV} {Q : PV → Prop} (hf : pIx s p q = some w) (h : Q w) : ∃ w, pIx s p q = some w ∧ Q w := ⟨w, hf, h⟩
theorem x_len {s : Stt} {p : List PV} {w : PV} {Q : PV → Prop} (hf : fLen s p = some w) (h : Q w) : ∃ w, fLen s p = some w ∧ Q w := ⟨w, hf, h⟩
theorem x_int {s : Stt} {p : List PV} {w : PV} {Q : PV → Prop} (hf : fInt s p = some w) (h : Q w) : ∃ w, fInt s p = some w ∧ Q w := ⟨w, hf, h⟩
theorem x_isi {s : Stt} {p : List PV} {w : PV} {Q : PV → Prop} (hf : fIsi s p = some w) (h : Q w) : ∃ w, fIsi s p = some w ∧ Q w := ⟨w, hf, h⟩
theorem x_pcut {s : Stt} {p w : PV} {a b : Option Int} {Q : PV → Prop} (hf : pCut s p a b = some w) (h : Q w) : ∃ w, pCut s p a b = some w ∧ Q w := ⟨w, hf, h⟩
theorem x_itm {s : Stt} {p : PV} {w : List PV} {Q : List PV → Prop} (hf : itemsOf s p = some w) (h : Q w) : ∃ w, itemsOf s p = some w ∧ Q w := ⟨w, hf, h⟩
theorem x_itF {p : PV} {w : List PV} {Q : List PV → Prop} (hf : itemsF p = some w) (h : Q w) : ∃ w, itemsF p = some w ∧ Q w := ⟨w, hf, h⟩
theorem x_low {n : Nat} {A : Prop} (hf : Nat.ble n sizeLine = true) (h : A) : n ≤ sizeLine ∧ A := ⟨Nat.le_of_ble_eq_true hf, h⟩
theorem x_num {n m : Nat} {A : Prop} (hf : n = m) (h : A) : n = m ∧ A := ⟨hf, h⟩
theorem x_mR {p : PV} {n : Nat} {ys : List PV} {s : Stt} {A : Nat → List PV → Prop} (h1 : p = .ref n) (h2 : s[n]? = some (.lst ys)) (h : A n ys) : ∃ n ys, p = .ref n ∧ s[n]? = some (.lst ys) ∧ A n ys := ⟨n, ys, h1, h2, h⟩
theorem x_mf {n : Nat} {s : Stt} {mf : List PV → List PV → Option (PV × List PV)} {ps xs xs' : List PV} {w : PV} {A : List PV → PV → List PV → Prop} (h1 : s[n]? = some (.lst xs)) (h2 : mf xs ps = some (w, xs')) (h : A xs w xs') : ∃ xs w xs', s[n]? = some (.lst xs) ∧ mf xs ps = some (w, xs') ∧ A xs w xs' := ⟨xs, w, xs', h1, h2, h⟩
theorem x_mfO {n : Nat} {e : Env} {mf : List PV → List PV → Option (PV × List PV)} {ps xs xs' : List PV} {w : PV} {A : List PV → PV → List PV → Prop} (h1 : e[n]? = some (.own xs)) (h2 : mf xs ps = some (w, xs')) (h : A xs w xs') : ∃ xs w xs', e[n]? = some (.own xs) ∧ mf xs ps = some (w, xs') ∧ A xs w xs' := ⟨xs, w, xs', h1, h2, h⟩
theorem ixN_zero {n : Nat} (h : 0 < n) : ixN n 0 = some 0 := by
  unfold ixN
  rw [if_pos (by omega), if_pos (by omega)]
  rfl
theorem ixN_nat {n i : Nat} (h : i < n) : ixN n (i : Int) = some i := by
  unfold ixN
  rw [if_pos (by omega), if_pos (by omega)]
  simp
theorem atI_nat {α : Type} {xs : List α} {i : Nat} {x : α} (h : xs[i]? = some x) : atI xs (i : Int) = some x := by
  unfold atI
  rw [ixN_nat (by
    by_cases q : i < xs.length
    · exact q
    · rw [List.getElem?_eq_none (by omega)] at h
      cases h)]
  exact h
theorem atI_zero {α : Type} {x : α} {xs : List α} : atI (x :: xs) 0 = some x := atI_nat (i := 0) rfl
theorem atI_of {α : Type} {xs : List α} {i : Int} (h0 : 0 ≤ i) (h1 : i < xs.length) : ∃ x, x ∈ xs ∧ atI xs i = some x := by
  have e : ((i.toNat : Nat) : Int) = i := Int.toNat_of_nonneg h0
  have hl : i.toNat < xs.length := by omega
  refine ⟨xs[i.toNat], List.getElem_mem hl, ?_⟩
  have q := atI_nat (List.getElem?_eq_getElem hl)
  rw [e] at q
  exact q
theorem pop0 {x : PV} {xs : List PV} : mPopAt (x :: xs) [.int 0] = some (x, xs) := by
  unfold mPopAt
  simp only []
  rw [if_pos (by decide), ixN_zero (by simp)]
  rfl
theorem noTF : ¬ (true = false) := fun h => nomatch h
theorem noFT : ¬ (false = true) := fun h => nomatch h
theorem pEq_v {s : Stt} {p q : PV} {b : Bool} (hp : okd 60 (res s p) = true) (hq : okd 60 (res s q) = true) (sp : seen s p = true) (sq : seen s q = true) (e : eqv (res s p) (res s q) = b) : pEq s p q = some (.bl b) := by
  unfold pEq
  rw [hp, hq, sp, sq, e]
  rfl
theorem pNe_v {s : Stt} {p q : PV} {b : Bool} (hp : okd 60 (res s p) = true) (hq : okd 60 (res s q) = true) (sp : seen s p = true) (sq : seen s q = true) (e : eqv (res s p) (res s q) = b) : pNe s p q = some (.bl (!b)) := by
  unfold pNe
  rw [hp, hq, sp, sq, e]
  rfl
theorem x_setR {p k : PV} {n : Nat} {xs : List PV} {j : Int} {m : Nat} {s : Stt} {A : Nat → List PV → Nat → Prop} (h1 : p = .ref n) (h2 : k = .int j) (h3 : s[n]? = some (.lst xs)) (h4 : ixN xs.length j = some m) (h : A n xs m) :
    ∃ n xs j m, p = .ref n ∧ k = .int j ∧ s[n]? = some (.lst xs) ∧ ixN xs.length j = some m ∧ A n xs m := ⟨n, xs, j, m, h1, h2, h3, h4, h⟩
theorem x_part {p : PV} {i : Int} {Q : Int → Prop} (h1 : p = .int i) (h : Q i) : ∃ i, p = .int i ∧ Q i := ⟨i, h1, h⟩
theorem x_par {ps : List PV} {p q : PV} {A : PV → PV → Prop} (h1 : ps = [p, q]) (h : A p q) : ∃ p q, ps = [p, q] ∧ A p q := ⟨p, q, h1, h⟩
theorem rngs (n : Nat) (i : Nat) (p : PV) : ((List.range n).map fun (i : Nat) => PV.int i)[i]? = some p → i < n ∧ p = .int i := fun h => by
  rw [List.getElem?_map] at h
  by_cases hi : i < n
  · rw [List.getElem?_range hi] at h
    exact ⟨hi, (Option.some.inj h).symm⟩
  · rw [List.getElem?_eq_none (by simpa using hi)] at h
    cases h
theorem x_rng1 {j : Int} {Q : List PV → Prop} (h0 : -1073741824 < j) (h1 : j < 1073741824) (h : Q ((List.range j.toNat).map fun (i : Nat) => PV.int i)) : ∃ xs, rng1 [.int j] = some xs ∧ Q xs := by
  refine ⟨_, ?_, h⟩
  show (if okR j = true then _ else _) = _
  rw [if_pos]
  unfold okR
  simp [h0, h1]
theorem x_rng2 {i j : Int} {Q : List PV → Prop} (h0 : -1073741824 < i) (h1 : i < 1073741824) (h2 : -1073741824 < j) (h3 : j < 1073741824) (h : Q ((List.range (j - i).toNat).map fun (k : Nat) => PV.int (i + k))) : ∃ xs, rng2 [.int i, .int j] = some xs ∧ Q xs := by
  refine ⟨_, ?_, h⟩
  show (if (okR i && okR j) = true then _ else _) = _
  rw [if_pos]
  unfold okR
  simp [h0, h1, h2, h3]
theorem rng_get (n : Nat) (f : Nat → PV) (i : Nat) (p : PV) : ((List.range n).map f)[i]? = some p → i < n ∧ p = f i := fun h => by
  rw [List.getElem?_map] at h
  by_cases hi : i < n
  · rw [List.getElem?_range hi] at h
    exact ⟨hi, (Option.some.inj h).symm⟩
  · rw [List.getElem?_eq_none (by simpa using hi)] at h
    cases h
/-- the script's ints as values -/
theorem toDs_ints (ns : List Int) : (ns.map PV.int).all (okd 59) = true := by
  rw [List.all_map]
  exact List.all_eq_true.mpr fun _ _ => rfl
theorem okd_ints (ns : List Int) : okd 60 (.lst (ns.map PV.int)) = true := toDs_ints ns
theorem eqv_nil (ns : List Int) : eqv (.lst (ns.map PV.int)) (.lst []) = ns.isEmpty := by
  cases ns with
  | nil => rfl
  | cons n ns => rfl
end FS

set_option Elab.async false
set_option linter.all false
set_option maxRecDepth 100000
/-! K01Den: the defs of law_k01_primes_and_inverses as data (printed by our gen.py) -/
namespace FS
open PySem L2
/-- the errors that this program raises -/
def errTab : List Str := ["NoInverse"]
/-- is_whole(thing, low, high); names: 0 thing, 1 low, 2 high -/
noncomputable def body_is_whole : Cd Flw := dRet (dAndV (dFn fIsi (dCons (dUse 0) (dCons (ret (.raw (.ty "int"))) (dNil)))) (dAndV (dNotV (dFn fIsi (dCons (dUse 0) (dCons (ret (.raw (.ty "bool"))) (dNil))))) (dChain pLe pLe (dUse 1) (dUse 0) (dUse 2))))
noncomputable def den_is_whole : List PV → Stt → Res := runD 3 3 body_is_whole
/-- is_prime(n); names: 0 n, 1 divisor -/
noncomputable def body_is_prime : Cd Flw := dSeq (dIf (dNotT (dTru (dCall 3 den_is_whole (dCons (dUse 0) (dCons (ret (.int 2)) (dCons (ret (.int 65521)) (dNil))))))) (dRet (ret (.bl false))) (nxt)) (dSeq (dSet 1 (ret (.int 2))) (dSeq (dWhile (dB (dOp pLe (dOp pMul (dUse 1) (dUse 1)) (dUse 0))) (dSeq (dIf (dB (dOp pEq (dOp pMod (dUse 0) (dUse 1)) (ret (.int 0)))) (dRet (ret (.bl false))) (nxt)) (dSet 1 (dOp pAdd (dUse 1) (ret (.int 1)))))) (dRet (ret (.bl true)))))
noncomputable def den_is_prime : List PV → Stt → Res := runD 2 1 body_is_prime
/-- inverse(a, p); names: 0 a, 1 p, 2 low, 3 high, 4 one, 5 other, 6 times -/
noncomputable def body_inverse : Cd Flw := dSeq (dPar 2 3 (dCons (dOp pMod (dFn fInt (dCons (dUse 0) (dNil))) (dUse 1)) (dCons (dUse 1) (dNil)))) (dSeq (dIf (dB (dOp pEq (dUse 2) (ret (.int 0)))) (dRaise "NoInverse" (dUse 0)) (nxt)) (dSeq (dAsg (dTup (dCons (ret (.int 1)) (dCons (ret (.int 0)) (dNil)))) (gTupD 2 (gsCons (gSet 4) (gsCons (gSet 5) (gsNil))))) (dSeq (dWhile (dB (dOp pGt (dUse 2) (ret (.int 1)))) (dSeq (dSet 6 (dOp pDiv (dUse 3) (dUse 2))) (dSeq (dPar 2 3 (dCons (dOp pSub (dUse 3) (dOp pMul (dUse 6) (dUse 2))) (dCons (dUse 2) (dNil)))) (dPar 4 5 (dCons (dOp pSub (dUse 5) (dOp pMul (dUse 6) (dUse 4))) (dCons (dUse 4) (dNil))))))) (dRet (dOp pMod (dFn fInt (dCons (dUse 4) (dNil))) (dUse 1))))))
noncomputable def den_inverse : List PV → Stt → Res := runD 7 2 body_inverse
/-- choose(n, j, p); names: 0 n, 1 j, 2 p, 3 row, 4 turn, 5 left, 6 right -/
noncomputable def body_choose : Cd Flw := dSeq (dIf (dB (dOp pGt (dUse 1) (dUse 0))) (dRet (ret (.int 0))) (nxt)) (dSeq (dSet 3 (dFrz (dDisp (dCons (ret (.int 1)) (dNil))))) (dSeq (dFor (dRng1 (dCons (dUse 0) (dNil))) (gSet 4) (dSet 3 (dOp pAdd (dOp pAdd (dFrz (dDisp (dCons (ret (.int 1)) (dNil)))) (dFrz (dComp (dZip (dCons (dUse 3) (dCons (dCut (dUse 3) (dPart (ret (.int 1))) (dNoPart)) (dNil)))) [5, 6] (gTupD 2 (gsCons (gSet 5) (gsCons (gSet 6) (gsNil)))) (ret true) (dOp pMod (dOp pAdd (dUse 5) (dUse 6)) (dUse 2))))) (dFrz (dDisp (dCons (ret (.int 1)) (dNil))))))) (dRet (dOp pMod (dFn fInt (dCons (dOp pIx (dUse 3) (dUse 1)) (dNil))) (dUse 2)))))
noncomputable def den_choose : List PV → Stt → Res := runD 7 3 body_choose
/-- _law_pool(_law_script); names: 0 _law_script, 1 _law_first, 2 _law_size -/
noncomputable def body__law_pool : Cd Flw := dSeq (dSet 1 (dIfE (dB (dOp pGt (dFn fLen (dCons (dUse 0) (dNil))) (ret (.int 0)))) (dFn fInt (dCons (dOp pIx (dUse 0) (ret (.int 0))) (dNil))) (ret (.int 0)))) (dSeq (dSet 2 (dIfE (dB (dOp pGe (dUse 1) (ret (.int 0)))) (dOp pMul (ret (.int 2)) (dUse 1)) (dOp pSub (dUn pNeg (ret (.int 1))) (dOp pMul (ret (.int 2)) (dUse 1))))) (dRet (dNew (dDisp (dCons (dIfE (dB (dOp pGe (dUse 2) (dOp pPow (ret (.int 10)) (ret (.int 18))))) (dUse 2) (ret (.int 0))) (dCons (dOp pAdd (dOp pMod (dFn fInt (dCons (dOp pAdd (dOp pMul (dUse 2) (ret (.int 48271))) (ret (.int 1009))) (dNil))) (ret (.int 2147483629))) (ret (.int 3))) (dCons (dNew (dListF (dCut (dUse 0) (dPart (ret (.int 1))) (dNoPart)))) (dNil))))))))
noncomputable def den__law_pool : List PV → Stt → Res := runD 3 1 body__law_pool
/-- _law_draw(_law_pool_here, _law_many); names: 0 _law_pool_here, 1 _law_many, 2 _law_cell, 3 _law_size, 4 _law_found -/
noncomputable def body__law_draw : Cd Flw := dSeq (dIf (dAndT (dB (dOp pEq (dOp pIx (dUse 0) (ret (.int 0))) (ret (.int 0)))) (dB (dOp pNe (dOp pIx (dUse 0) (ret (.int 2))) (dFrz (dDisp (dNil)))))) (dSeq (dSet 2 (dFn fInt (dCons (dMthR mPopAt (dOp pIx (dUse 0) (ret (.int 2))) (dCons (ret (.int 0)) (dNil))) (dNil)))) (dSeq (dSet 3 (dIfE (dB (dOp pGe (dUse 2) (ret (.int 0)))) (dOp pMul (ret (.int 2)) (dUse 2)) (dOp pSub (dUn pNeg (ret (.int 1))) (dOp pMul (ret (.int 2)) (dUse 2))))) (dSeq (dSetR (dUse 0) (ret (.int 0)) (dIfE (dB (dOp pGe (dUse 3) (dOp pPow (ret (.int 10)) (ret (.int 18))))) (dUse 3) (ret (.int 0)))) (dSetR (dUse 0) (ret (.int 1)) (dOp pAdd (dOp pMod (dFn fInt (dCons (dOp pAdd (dOp pIx (dUse 0) (ret (.int 1))) (dOp pMul (dUse 3) (ret (.int 69621)))) (dNil))) (ret (.int 2147483629))) (ret (.int 3))))))) (nxt)) (dSeq (dIf (dB (dOp pGt (dOp pIx (dUse 0) (ret (.int 0))) (ret (.int 0)))) (dSeq (dSet 4 (dOp pMod (dFn fInt (dCons (dOp pIx (dUse 0) (ret (.int 0))) (dNil))) (dUse 1))) (dSeq (dSetR (dUse 0) (ret (.int 0)) (dOp pDiv (dOp pIx (dUse 0) (ret (.int 0))) (dUse 1))) (dRet (dUse 4)))) (nxt)) (dSeq (dSetR (dUse 0) (ret (.int 1)) (dOp pMod (dFn fInt (dCons (dOp pAdd (dOp pMul (dOp pIx (dUse 0) (ret (.int 1))) (ret (.int 48271))) (ret (.int 11))) (dNil))) (ret (.int 2147483647)))) (dRet (dOp pMod (dOp pDiv (dOp pMod (dFn fInt (dCons (dOp pMul (dOp pIx (dUse 0) (ret (.int 1))) (dOp pIx (dUse 0) (ret (.int 1)))) (dNil))) (ret (.int 2147483629))) (ret (.int 32))) (dUse 1)))))
noncomputable def den__law_draw : List PV → Stt → Res := runD 5 2 body__law_draw
/-- _law_pick(_law_pool_here, _law_things); names: 0 _law_pool_here, 1 _law_things -/
noncomputable def body__law_pick : Cd Flw := dRet (dOp pIx (dUse 1) (dCall 2 den__law_draw (dCons (dUse 0) (dCons (dFn fLen (dCons (dUse 1) (dNil))) (dNil)))))
noncomputable def den__law_pick : List PV → Stt → Res := runD 2 2 body__law_pick
/-- _law_is_whole(_law_thing); names: 0 _law_thing -/
noncomputable def body__law_is_whole : Cd Flw := dRet (dAndV (dFn fIsi (dCons (dUse 0) (dCons (ret (.raw (.ty "int"))) (dNil)))) (dNotV (dFn fIsi (dCons (dUse 0) (dCons (ret (.raw (.ty "bool"))) (dNil))))))
noncomputable def den__law_is_whole : List PV → Stt → Res := runD 1 1 body__law_is_whole
/-- _law_is_prime(_law_n); names: 0 _law_n, 1 _law_divisor -/
noncomputable def body__law_is_prime : Cd Flw := dSeq (dIf (dOrT (dNotT (dTru (dCall 1 den__law_is_whole (dCons (dUse 0) (dNil))))) (dNotT (dB (dChain pLe pLe (ret (.int 2)) (dUse 0) (ret (.int 65521)))))) (dRet (ret (.bl false))) (nxt)) (dSeq (dFor (dRng2 (dCons (ret (.int 2)) (dCons (ret (.int 256)) (dNil)))) (gSet 1) (dSeq (dIf (dB (dOp pGt (dOp pMul (dUse 1) (dUse 1)) (dUse 0))) (dRet (ret (.bl true))) (nxt)) (dIf (dB (dOp pEq (dOp pSub (dUse 0) (dOp pMul (dOp pDiv (dUse 0) (dUse 1)) (dUse 1))) (ret (.int 0)))) (dRet (ret (.bl false))) (nxt)))) (dRet (ret (.bl true))))
noncomputable def den__law_is_prime : List PV → Stt → Res := runD 2 1 body__law_is_prime
/-- _law_primes_right(_law_pool_here); names: 0 _law_pool_here, 1 _law_prime, 2 _law_things, 3 _law_thing, 4 _law_told -/
noncomputable def body__law_primes_right : Cd Flw := dSeq (dSet 1 (dCall 2 den__law_pick (dCons (dUse 0) (dCons (dFrz (dDisp (dCons (ret (.int 2)) (dCons (ret (.int 3)) (dCons (ret (.int 5)) (dCons (ret (.int 7)) (dCons (ret (.int 11)) (dCons (ret (.int 13)) (dCons (ret (.int 101)) (dCons (ret (.int 251)) (dNil))))))))))) (dNil))))) (dSeq (dSet 2 (dFrz (dDisp (dCons (dUse 1) (dCons (dOp pMul (dUse 1) (dUse 1)) (dCons (dOp pAdd (dUse 1) (ret (.int 1))) (dCons (dOp pSub (dCall 2 den__law_draw (dCons (dUse 0) (dCons (ret (.int 40)) (dNil)))) (ret (.int 3))) (dCons (ret (.int 65521)) (dCons (ret (.int 65520)) (dCons (ret (.int 65537)) (dCons (dCall 2 den__law_draw (dCons (dUse 0) (dCons (ret (.int 65522)) (dNil)))) (dNil)))))))))))) (dSeq (dSet 2 (dOp pAdd (dUse 2) (dFrz (dDisp (dCons (dCall 2 den__law_pick (dCons (dUse 0) (dCons (dFrz (dDisp (dCons (ret (.bl true)) (dCons (ret (.bl false)) (dCons (ret .non) (dCons (ret (.str "7")) (dCons (dTup (dCons (ret (.int 7)) (dNil))) (dCons (dTup (dNil)) (dCons (dOp pAdd (dOp pPow (ret (.int 10)) (ret (.int 30))) (ret (.int 57))) (dCons (ret (.int 0)) (dCons (ret (.int 1)) (dCons (dUn pNeg (ret (.int 7))) (dNil))))))))))))) (dNil)))) (dNil)))))) (dSeq (dFor (dItems (dUse 2)) (gSet 3) (dSeq (dSet 4 (dCall 1 den_is_prime (dCons (dUse 3) (dNil)))) (dIf (dOrT (dNotT (dTru (dFn fIsi (dCons (dUse 4) (dCons (ret (.raw (.ty "bool"))) (dNil)))))) (dB (dOp pNe (dUse 4) (dCall 1 den__law_is_prime (dCons (dUse 3) (dNil)))))) (dRet (ret (.bl false))) (nxt)))) (dRet (ret (.bl true))))))
noncomputable def den__law_primes_right : List PV → Stt → Res := runD 5 1 body__law_primes_right
/-- _law_inverted(_law_a, _law_p); names: 0 _law_a, 1 _law_p, 2 e -/
noncomputable def body__law_inverted : Cd Flw := dTry errTab [⟨"NoInverse", some 2, fun c a b => dRet (dIfE (dAndT (dTru (dIsE 2 a b (catches "Refused" c))) (dTru (dIsE 2 a b (catches "ValueError" c)))) (dTup (dCons (ret (.str "refused")) (dCons (dWhat 2 a b) (dNil)))) (dTup (dCons (ret (.str "odd")) (dCons (ret (.int 0)) (dNil)))))⟩] (dRet (dTup (dCons (dCall 2 den_inverse (dCons (dUse 0) (dCons (dUse 1) (dNil)))) (dNil))))
noncomputable def den__law_inverted : List PV → Stt → Res := runD 3 2 body__law_inverted
/-- _law_inverse_right(_law_a, _law_p); names: 0 _law_a, 1 _law_p, 2 _law_told -/
noncomputable def body__law_inverse_right : Cd Flw := dSeq (dSet 2 (dCall 2 den__law_inverted (dCons (dUse 0) (dCons (dUse 1) (dNil))))) (dSeq (dIf (dB (dOp pEq (dOp pSub (dUse 0) (dOp pMul (dOp pDiv (dUse 0) (dUse 1)) (dUse 1))) (ret (.int 0)))) (dRet (dOp pEq (dUse 2) (dTup (dCons (ret (.str "refused")) (dCons (dUse 0) (dNil)))))) (nxt)) (dSeq (dIf (dOrT (dB (dOp pNe (dFn fLen (dCons (dUse 2) (dNil))) (ret (.int 1)))) (dOrT (dNotT (dTru (dCall 1 den__law_is_whole (dCons (dOp pIx (dUse 2) (ret (.int 0))) (dNil))))) (dNotT (dB (dChain pLe pLt (ret (.int 0)) (dOp pIx (dUse 2) (ret (.int 0))) (dUse 1)))))) (dRet (ret (.bl false))) (nxt)) (dRet (dOp pEq (dOp pMod (dFn fInt (dCons (dOp pSub (dOp pMul (dOp pIx (dUse 2) (ret (.int 0))) (dUse 0)) (ret (.int 1))) (dNil))) (dUse 1)) (ret (.int 0))))))
noncomputable def den__law_inverse_right : List PV → Stt → Res := runD 3 2 body__law_inverse_right
/-- _law_ways(_law_n, _law_j); names: 0 _law_n, 1 _law_j, 2 _law_found, 3 _law_at -/
noncomputable def body__law_ways : Cd Flw := dSeq (dSet 2 (ret (.int 1))) (dSeq (dFor (dRng1 (dCons (dFn fMin (dCons (dUse 1) (dCons (dUse 0) (dNil)))) (dNil))) (gSet 3) (dSet 2 (dOp pDiv (dOp pMul (dUse 2) (dOp pSub (dUse 0) (dUse 3))) (dOp pAdd (dUse 3) (ret (.int 1)))))) (dRet (dIfE (dB (dOp pLe (dUse 1) (dUse 0))) (dUse 2) (ret (.int 0)))))
noncomputable def den__law_ways : List PV → Stt → Res := runD 4 2 body__law_ways
/-- law(_law_script); names: 0 _law_script, 1 _law_pool_here, 2 _law_p, 3 _law_a, 4 _law_turn, 5 _law_n, 6 _law_j, 7 _law_told -/
noncomputable def body_law : Cd Flw := dSeq (dSet 1 (dCall 1 den__law_pool (dCons (dUse 0) (dNil)))) (dSeq (dIf (dNotT (dTru (dCall 1 den__law_primes_right (dCons (dUse 1) (dNil))))) (dRet (ret (.bl false))) (nxt)) (dSeq (dSet 2 (dCall 2 den__law_pick (dCons (dUse 1) (dCons (dFrz (dDisp (dCons (ret (.int 2)) (dCons (ret (.int 2)) (dCons (ret (.int 3)) (dCons (ret (.int 5)) (dCons (ret (.int 7)) (dCons (ret (.int 11)) (dCons (ret (.int 257)) (dCons (ret (.int 32749)) (dCons (ret (.int 65521)) (dNil)))))))))))) (dNil))))) (dSeq (dFor (dItems (dFrz (dDisp (dCons (ret (.int 1)) (dCons (dOp pSub (dUse 2) (ret (.int 1))) (dCons (dOp pSub (ret (.int 0)) (dOp pMul (dUse 2) (dCall 2 den__law_draw (dCons (dUse 1) (dCons (ret (.int 4)) (dNil)))))) (dCons (dOp pSub (ret (.int 1)) (dOp pMul (dUse 2) (dCall 2 den__law_draw (dCons (dUse 1) (dCons (ret (.int 9)) (dNil)))))) (dCons (dOp pSub (dCall 2 den__law_draw (dCons (dUse 1) (dCons (dOp pPow (ret (.int 10)) (ret (.int 12))) (dNil)))) (dOp pPow (ret (.int 10)) (ret (.int 11)))) (dNil))))))))) (gSet 3) (dIf (dNotT (dTru (dCall 2 den__law_inverse_right (dCons (dUse 3) (dCons (dUse 2) (dNil)))))) (dRet (ret (.bl false))) (nxt))) (dSeq (dFor (dRng1 (dCons (ret (.int 3)) (dNil))) (gSet 4) (dSeq (dSet 5 (dCall 2 den__law_pick (dCons (dUse 1) (dCons (dFrz (dDisp (dCons (ret (.int 0)) (dCons (ret (.int 1)) (dCons (dUse 2) (dCons (dCall 2 den__law_draw (dCons (dUse 1) (dCons (ret (.int 13)) (dNil)))) (dCons (dCall 2 den__law_draw (dCons (dUse 1) (dCons (ret (.int 13)) (dNil)))) (dCons (dCall 2 den__law_draw (dCons (dUse 1) (dCons (ret (.int 100)) (dNil)))) (dNil))))))))) (dNil))))) (dSeq (dSet 5 (dIfE (dB (dOp pLt (dUse 5) (ret (.int 100)))) (dUse 5) (ret (.int 9)))) (dSeq (dSet 6 (dCall 2 den__law_pick (dCons (dUse 1) (dCons (dFrz (dDisp (dCons (ret (.int 0)) (dCons (ret (.int 1)) (dCons (dUse 5) (dCons (dOp pAdd (dUse 5) (ret (.int 1))) (dCons (dOp pDiv (dUse 5) (ret (.int 2))) (dCons (dCall 2 den__law_draw (dCons (dUse 1) (dCons (dOp pAdd (dUse 5) (ret (.int 1))) (dNil)))) (dNil))))))))) (dNil))))) (dSeq (dSet 7 (dCall 3 den_choose (dCons (dUse 5) (dCons (dUse 6) (dCons (dUse 2) (dNil)))))) (dIf (dOrT (dNotT (dTru (dCall 1 den__law_is_whole (dCons (dUse 7) (dNil))))) (dB (dOp pNe (dUse 7) (dOp pSub (dCall 2 den__law_ways (dCons (dUse 5) (dCons (dUse 6) (dNil)))) (dOp pMul (dOp pDiv (dCall 2 den__law_ways (dCons (dUse 5) (dCons (dUse 6) (dNil)))) (dUse 2)) (dUse 2)))))) (dRet (ret (.bl false))) (nxt))))))) (dRet (ret (.bl true)))))))
noncomputable def den_law : List PV → Stt → Res := runD 8 1 body_law
end FS

set_option Elab.async false
set_option linter.all false
set_option maxRecDepth 100000
/-! FsPool: the laws' pool. -/
namespace FS
open PySem L2
section
local macro_rules | `(tactic| walk_at "okm") => `(tactic| first | (exact okMul_l (by omega)) | (exact okMul_r (by omega)) | decide)
local macro_rules | `(tactic| walk_at "fs1") => `(tactic| first
  | (with_reducible refine wp_ret ?_)
  | (with_reducible refine wp_seq ?_)
  | (with_reducible refine wp_sq ?_)
  | (with_reducible refine wp_sqr ?_)
  | (with_reducible refine wp_lq ?_)
  | (with_reducible refine wp_lqr ?_)
  | (with_reducible refine wp_fqr ?_)
  | (with_reducible refine wp_fqn ?_)
  | ((with_reducible show Wp (dUse _ _ _) _ _); refine no_implicit_lambda% (wp_use rfl ?_))
  | (with_reducible refine wp_op ?_)
  | (with_reducible refine wp_b ?_)
  | (with_reducible refine wp_if ?_)
  | (with_reducible refine wp_set ?_)
  | (with_reducible refine wp_dret ?_)
  | (with_reducible refine wp_nil ?_)
  | (with_reducible refine wp_cons ?_)
  | (with_reducible refine wp_fn ?_)
  | (with_reducible refine wp_call ?_)
  | (with_reducible refine wp_ife ?_)
  | (with_reducible refine wp_andT ?_)
  | (with_reducible refine wp_orT ?_)
  | (with_reducible refine wp_notT ?_)
  | (with_reducible refine wp_andV ?_)
  | (with_reducible refine wp_orV ?_)
  | (with_reducible refine wp_notV ?_)
  | (with_reducible refine wp_tru ?_)
  | (with_reducible refine wp_un ?_)
  | (with_reducible refine wp_chain ?_)
  | (with_reducible refine wp_frz ?_)
  | (with_reducible refine wp_disp ?_)
  | (with_reducible refine wp_tup ?_)
  | (with_reducible refine wp_new ?_)
  | (with_reducible refine wp_nxt ?_)
  | (with_reducible refine wp_setR ?_)
  | (with_reducible refine wp_cut ?_)
  | (with_reducible refine wp_noPart ?_)
  | (with_reducible refine wp_part ?_)
  | (with_reducible refine wp_list ?_)
  | (with_reducible refine wp_drop ?_)
  | (with_reducible refine wp_par ?_)
  | (with_reducible refine wp_asg ?_)
  | (with_reducible refine wp_gset ?_)
  | (with_reducible refine wp_raise ?_)
  | ((with_reducible show Wp (gTupD _ _ _ _ _) _ _); refine no_implicit_lambda% (wp_gtup rfl rfl ?_))
  | (with_reducible refine wp_gcons ?_)
  | (with_reducible refine wp_gnil ?_)
  | (with_reducible refine wp_items ?_)
  | (with_reducible refine wp_rng1 ?_)
  | (with_reducible refine wp_rng2 ?_)
  | (with_reducible refine wp_zip ?_)
  | (with_reducible refine x_add ?_)
  | (with_reducible refine x_sub ?_)
  | ((with_reducible refine x_mul ?_ ?_); (walk_at "okm"))
  | ((with_reducible refine x_div ?_ ?_ ?_); omega; omega)
  | ((with_reducible refine x_mod ?_ ?_); omega)
  | ((with_reducible refine x_pow ?_ ?_); decide)
  | (with_reducible refine x_lt ?_)
  | (with_reducible refine x_le ?_)
  | (with_reducible refine x_gt ?_)
  | (with_reducible refine x_ge ?_)
  | (with_reducible refine x_eq ?_)
  | (with_reducible refine x_ne ?_)
  | (with_reducible refine x_neg ?_)
  | (with_reducible refine x_bl ?_)
  | (with_reducible refine x_truB ?_)
  | ((with_reducible show ∃ k, _ = some (PV.bl k) ∧ _); refine x_chain rfl ?_)
  | (with_reducible refine wp_mthR ?_)
  | ((with_reducible show ∃ n ys, _ = PV.ref n ∧ _ = some (SO.lst ys) ∧ _); refine x_mR rfl rfl ?_)
  | ((with_reducible show _ ≤ sizeLine ∧ _); refine x_low rfl ?_)
  | ((with_reducible show List.length _ = _ ∧ _); refine x_num rfl ?_)
  | ((with_reducible show ∃ w, pIx _ _ _ = some w ∧ _); refine x_ix rfl ?_)
  | ((with_reducible show ∃ w, fLen _ _ = some w ∧ _); refine x_len rfl ?_)
  | ((with_reducible show ∃ w, fInt _ _ = some w ∧ _); refine x_int rfl ?_)
  | ((with_reducible refine x_isi (w := .bl true) ?_ ?_); exact rfl)
  | ((with_reducible refine x_isi (w := .bl false) ?_ ?_); exact rfl)
  | ((with_reducible show ∃ w, pCut _ _ _ _ = some w ∧ _); refine x_pcut rfl ?_)
  | ((with_reducible show ∃ w, itemsOf _ _ = some w ∧ _); refine x_itm rfl ?_)
  | ((with_reducible show ∃ w, itemsF _ = some w ∧ _); refine x_itF rfl ?_)
  | ((with_reducible show ∃ i, _ = PV.int i ∧ _); refine x_part rfl ?_)
  | ((with_reducible show ∃ p q, _ = [p, q] ∧ _); refine x_par rfl ?_)
  | ((with_reducible show ∃ n xs j m, _ = PV.ref n ∧ _ = PV.int j ∧ _ ∧ _ ∧ _); refine x_setR rfl rfl rfl rfl ?_))
local macro_rules | `(tactic| walk_at "fs") => `(tactic| repeat (walk_at "fs1"))
local macro_rules | `(tactic| walk_at "fsp") => `(tactic| (with_reducible refine x_spl ?_ ?_) <;> (intro h; first | (simp only [Bool.not_true, Bool.not_false, reduceCtorEq, decide_eq_true_eq, decide_eq_false_iff_not, Bool.not_eq_true', Bool.not_eq_false', Bool.and_eq_true, Int.not_lt, Int.not_le, Bool.or_eq_true, Bool.and_eq_false_iff, Bool.or_eq_false_iff, Bool.false_and, Bool.true_and, Bool.or_false, Bool.false_or, beq_self_eq_true, Bool.true_or, List.isEmpty_nil, List.isEmpty_cons] at h) | skip))
local macro_rules | `(tactic| walk_at "fss") => `(tactic| repeat' (first | (walk_at "fs1") | (walk_at "fsp")))
/-- the pool: its ints, its own list, and what lies behind -/
def Pool (S : Stt) : Prop := ∃ (a b : Int) (ns : List Int) (r : Stt), S = .lst (ns.map PV.int) :: .lst [.int a, .int b, .ref 0] :: r ∧ 0 ≤ a
theorem fn_pool (ns : List Int) : Fn (den__law_pool [.scr ns] []) (fun p S => p = .ref 1 ∧ Pool S) noR := by
  refine no_implicit_lambda% (fn_run rfl ?_)
  unfold body__law_pool
  walk_at "fss"
  · cases ns with
    | nil => simp at *
    | cons n ns =>
      refine x_ix (w := .int n) (by show (atI (n :: ns) 0).map PV.int = _; rw [atI_zero]; rfl) ?_
      walk_at "fss"
      all_goals exact ⟨rfl, _, _, _, [], rfl, by omega⟩
  all_goals exact ⟨rfl, _, _, _, [], rfl, by omega⟩
theorem fn_draw (S : Stt) (h : Pool S) (many : Int) (h0 : 0 < many) (h1 : many < 1000000000000000000000) : Fn (den__law_draw [.ref 1, .int many] S) (fun p S => Pool S ∧ ∃ v, p = .int v ∧ 0 ≤ v ∧ v < many) noR := by
  obtain ⟨a, b, ns, r, rfl, ha⟩ := h
  have hm := fun a => Int.emod_nonneg a (Int.ne_of_gt h0)
  have hm2 := fun a => Int.emod_lt_of_pos a h0
  have hd := fun a h => Int.ediv_nonneg (a := a) (b := many) h (Int.le_of_lt h0)
  have hn : ∀ b r, pNe (.lst (ns.map PV.int) :: .lst [.int a, .int b, .ref 0] :: r) (.ref 0) (.lst []) = some (.bl (!ns.isEmpty)) := fun b r => by
    show (if (okd 60 (.lst (ns.map PV.int)) && _ && _ && _) = true then some (PV.bl (!eqv (.lst (ns.map PV.int)) (.lst []))) else none) = _
    rw [okd_ints, eqv_nil]
    rfl
  refine no_implicit_lambda% (fn_run rfl ?_)
  unfold body__law_draw
  walk_at "fss"
  · refine ⟨_, hn _ _, ?_⟩
    cases ns with
    | nil =>
      walk_at "fss"
      all_goals first | omega | exact ⟨⟨_, _, [], r, rfl, by first | omega | exact hd _ (by omega)⟩, _, rfl, hm _, hm2 _⟩
    | cons n ns =>
      walk_at "fss"
      · refine x_mf rfl pop0 ?_
        walk_at "fss"
        all_goals exact ⟨⟨_, _, ns, r, rfl, by first | omega | exact hd _ (by omega)⟩, _, rfl, hm _, hm2 _⟩
      all_goals exact absurd ‹(n :: ns).isEmpty = true› Bool.false_ne_true
  all_goals exact ⟨⟨_, _, ns, r, rfl, by first | omega | exact hd _ (by omega)⟩, _, rfl, hm _, hm2 _⟩
theorem fn_pick (S : Stt) (h : Pool S) (xs : List PV) (hx : xs ≠ []) (hl : xs.length < 1000000) : Fn (den__law_pick [.ref 1, .lst xs] S) (fun p S => Pool S ∧ p ∈ xs) noR := by
  refine no_implicit_lambda% (fn_run rfl ?_)
  unfold body__law_pick
  walk_at "fss"
  have h0 : 0 < xs.length := List.length_pos_iff.mpr hx
  refine no_implicit_lambda% Fn.mono (fn_draw _ h _ (by omega) (by omega)) (fun p s ⟨h1, v, e, h2, h3⟩ => ?_) fun _ _ _ h => h
  subst e
  obtain ⟨x, m, e⟩ := atI_of h2 h3
  exact ⟨x, e, h1, m⟩
end
end FS

set_option Elab.async false
set_option linter.all false
set_option maxRecDepth 100000
namespace FS
open PySem L2
section
local macro_rules | `(tactic| walk_at "okm") => `(tactic| first | (exact okMul_l (by omega)) | (exact okMul_r (by omega)) | decide)
local macro_rules | `(tactic| walk_at "fs1") => `(tactic| first
  | (with_reducible refine wp_ret ?_)
  | (with_reducible refine wp_seq ?_)
  | (with_reducible refine wp_sq ?_)
  | (with_reducible refine wp_sqr ?_)
  | (with_reducible refine wp_lq ?_)
  | (with_reducible refine wp_lqr ?_)
  | (with_reducible refine wp_fqr ?_)
  | (with_reducible refine wp_fqn ?_)
  | ((with_reducible show Wp (dUse _ _ _) _ _); refine no_implicit_lambda% (wp_use rfl ?_))
  | (with_reducible refine wp_op ?_)
  | (with_reducible refine wp_b ?_)
  | (with_reducible refine wp_if ?_)
  | (with_reducible refine wp_set ?_)
  | (with_reducible refine wp_dret ?_)
  | (with_reducible refine wp_nil ?_)
  | (with_reducible refine wp_cons ?_)
  | (with_reducible refine wp_fn ?_)
  | (with_reducible refine wp_call ?_)
  | (with_reducible refine wp_ife ?_)
  | (with_reducible refine wp_andT ?_)
  | (with_reducible refine wp_orT ?_)
  | (with_reducible refine wp_notT ?_)
  | (with_reducible refine wp_andV ?_)
  | (with_reducible refine wp_orV ?_)
  | (with_reducible refine wp_notV ?_)
  | (with_reducible refine wp_tru ?_)
  | (with_reducible refine wp_un ?_)
  | (with_reducible refine wp_chain ?_)
  | (with_reducible refine wp_frz ?_)
  | (with_reducible refine wp_disp ?_)
  | (with_reducible refine wp_tup ?_)
  | (with_reducible refine wp_new ?_)
  | (with_reducible refine wp_nxt ?_)
  | (with_reducible refine wp_setR ?_)
  | (with_reducible refine wp_cut ?_)
  | (with_reducible refine wp_noPart ?_)
  | (with_reducible refine wp_part ?_)
  | (with_reducible refine wp_list ?_)
  | (with_reducible refine wp_drop ?_)
  | (with_reducible refine wp_par ?_)
  | (with_reducible refine wp_asg ?_)
  | (with_reducible refine wp_gset ?_)
  | (with_reducible refine wp_raise ?_)
  | ((with_reducible show Wp (gTupD _ _ _ _ _) _ _); refine no_implicit_lambda% (wp_gtup rfl rfl ?_))
  | (with_reducible refine wp_gcons ?_)
  | (with_reducible refine wp_gnil ?_)
  | (with_reducible refine wp_items ?_)
  | (with_reducible refine wp_rng1 ?_)
  | (with_reducible refine wp_rng2 ?_)
  | (with_reducible refine wp_zip ?_)
  | (with_reducible refine x_add ?_)
  | (with_reducible refine x_sub ?_)
  | ((with_reducible refine x_mul ?_ ?_); (walk_at "okm"))
  | ((with_reducible refine x_div ?_ ?_ ?_); omega; omega)
  | ((with_reducible refine x_mod ?_ ?_); omega)
  | ((with_reducible refine x_pow ?_ ?_); decide)
  | (with_reducible refine x_lt ?_)
  | (with_reducible refine x_le ?_)
  | (with_reducible refine x_gt ?_)
  | (with_reducible refine x_ge ?_)
  | (with_reducible refine x_eq ?_)
  | (with_reducible refine x_ne ?_)
  | (with_reducible refine x_neg ?_)
  | (with_reducible refine x_bl ?_)
  | (with_reducible refine x_truB ?_)
  | ((with_reducible show ∃ k, _ = some (PV.bl k) ∧ _); refine x_chain rfl ?_)
  | (with_reducible refine wp_mthR ?_)
  | ((with_reducible show ∃ n ys, _ = PV.ref n ∧ _ = some (SO.lst ys) ∧ _); refine x_mR rfl rfl ?_)
  | ((with_reducible show _ ≤ sizeLine ∧ _); refine x_low rfl ?_)
  | ((with_reducible show List.length _ = _ ∧ _); refine x_num rfl ?_)
  | ((with_reducible show ∃ w, pIx _ _ _ = some w ∧ _); refine x_ix rfl ?_)
  | ((with_reducible show ∃ w, fLen _ _ = some w ∧ _); refine x_len rfl ?_)
  | ((with_reducible show ∃ w, fInt _ _ = some w ∧ _); refine x_int rfl ?_)
  | ((with_reducible refine x_isi (w := .bl true) ?_ ?_); exact rfl)
  | ((with_reducible refine x_isi (w := .bl false) ?_ ?_); exact rfl)
  | ((with_reducible show ∃ w, pCut _ _ _ _ = some w ∧ _); refine x_pcut rfl ?_)
  | ((with_reducible show ∃ w, itemsOf _ _ = some w ∧ _); refine x_itm rfl ?_)
  | ((with_reducible show ∃ w, itemsF _ = some w ∧ _); refine x_itF rfl ?_)
  | ((with_reducible show ∃ i, _ = PV.int i ∧ _); refine x_part rfl ?_)
  | ((with_reducible show ∃ p q, _ = [p, q] ∧ _); refine x_par rfl ?_)
  | ((with_reducible show ∃ n xs j m, _ = PV.ref n ∧ _ = PV.int j ∧ _ ∧ _ ∧ _); refine x_setR rfl rfl rfl rfl ?_))
local macro_rules | `(tactic| walk_at "fs") => `(tactic| repeat (walk_at "fs1"))
local macro_rules | `(tactic| walk_at "fsp") => `(tactic| (with_reducible refine x_spl ?_ ?_) <;> (intro h; first | (simp only [Bool.not_true, Bool.not_false, reduceCtorEq, decide_eq_true_eq, decide_eq_false_iff_not, Bool.not_eq_true', Bool.not_eq_false', Bool.and_eq_true, Int.not_lt, Int.not_le, Bool.or_eq_true, Bool.and_eq_false_iff, Bool.or_eq_false_iff, Bool.false_and, Bool.true_and, Bool.or_false, Bool.false_or, beq_self_eq_true, Bool.true_or, List.isEmpty_nil, List.isEmpty_cons] at h) | skip))
local macro_rules | `(tactic| walk_at "fss") => `(tactic| repeat' (first | (walk_at "fs1") | (walk_at "fsp")))
/-! K01Math: what the defs compute. -/
/-- prime, up to the program's greatest -/
def prm (n : Int) : Prop := 2 ≤ n ∧ n ≤ 65521 ∧ ∀ k, 2 ≤ k → k * k ≤ n → n % k ≠ 0
open Classical in
noncomputable def isP : PV → Bool
  | .int n => decide (prm n)
  | _ => false
def Th (p : PV) : Prop := (∃ n, p = .int n) ∨ (∃ b, p = .bl b) ∨ p = .non ∨ (∃ x, p = .str x) ∨ ∃ xs, p = .tup xs
def isW (lo hi : Int) : PV → Bool
  | .int n => decide (lo ≤ n) && decide (n ≤ hi)
  | _ => false
theorem fn_is_whole (S : Stt) (p : PV) (lo hi : Int) (h : Th p) : Fn (den_is_whole [p, .int lo, .int hi] S) (fun q s => s = S ∧ q = .bl (isW lo hi p)) noR := by
  refine no_implicit_lambda% (fn_run rfl ?_)
  unfold body_is_whole
  rcases h with ⟨n, rfl⟩ | ⟨b, rfl⟩ | rfl | ⟨x, rfl⟩ | ⟨xs, rfl⟩
  · walk_at "fss"
    all_goals refine ⟨rfl, ?_⟩
    all_goals refine congrArg PV.bl ?_
    all_goals simp only [isW]
    all_goals first | (rw [decide_eq_true (by omega : lo ≤ n)]; rfl) | (rw [decide_eq_false (by omega : ¬ lo ≤ n)]; rfl)
  all_goals walk_at "fss"
  all_goals exact ⟨rfl, rfl⟩
theorem fn_law_whole (S : Stt) (p : PV) (h : Th p) : Fn (den__law_is_whole [p] S) (fun q s => s = S ∧ q = .bl (match p with | .int _ => true | _ => false)) noR := by
  refine no_implicit_lambda% (fn_run rfl ?_)
  unfold body__law_is_whole
  rcases h with ⟨n, rfl⟩ | ⟨b, rfl⟩ | rfl | ⟨x, rfl⟩ | ⟨xs, rfl⟩
  all_goals walk_at "fss"
  all_goals exact ⟨rfl, rfl⟩
theorem sq_le {a b : Int} (h0 : 0 ≤ a) (h : a ≤ b) : a * a ≤ b * b := Int.mul_le_mul h h h0 (Int.le_trans h0 h)
theorem sq_ge {d : Int} (h : 2 ≤ d) : d + 1 ≤ d * d := by
  have := Int.mul_le_mul_of_nonneg_right h (Int.le_trans (by decide) h)
  omega
theorem fn_is_prime (S : Stt) (p : PV) (h : Th p) : Fn (den_is_prime [p] S) (fun q s => s = S ∧ q = .bl (isP p)) noR := by
  refine no_implicit_lambda% (fn_run rfl ?_)
  unfold body_is_prime
  walk_at "fss"
  refine no_implicit_lambda% Fn.mono (fn_is_whole S p 2 65521 h) (fun q s h1 => ?_) fun _ _ _ h => h
  obtain ⟨rfl, rfl⟩ := h1
  walk_at "fss"
  · rename_i hw
    refine ⟨rfl, ?_⟩
    cases p with
    | int n =>
      have : ¬ prm n := fun z => by simp [isW, z.1, z.2.1] at hw
      simp [isP, this]
    | _ => rfl
  · rename_i hw
    cases p with
    | int n =>
      simp only [isW, Bool.and_eq_true, decide_eq_true_eq] at hw
      refine wp_while (fun e s' => s' = s ∧ ∃ d, e = [.val (.int n), .val (.int d)] ∧ 2 ≤ d ∧ d ≤ n ∧ ∀ k, 2 ≤ k → k < d → n % k ≠ 0) (fun e s => match e with | [_, .val (.int d)] => (n - d).toNat | _ => 0) ⟨rfl, 2, rfl, by omega, by omega, fun k h1 h2 => by omega⟩ ?_
      intro e s' ⟨e1, d, e2, h1, h2, h3⟩
      subst e1 e2
      walk_at "fss"
      · rename_i hk
        refine ⟨rfl, ?_⟩
        have : ¬ prm n := fun z => z.2.2 d h1 ‹d * d ≤ n› hk
        simp [isP, this]
      · rename_i hd _
        have hq := sq_ge h1
        refine ⟨⟨rfl, d + 1, rfl, by omega, by omega, fun k q1 q2 => ?_⟩, ?_⟩
        · by_cases q : k = d
          · subst q
            assumption
          · exact h3 k q1 (by omega)
        · show (n - (d + 1)).toNat < (n - d).toNat
          omega
      · rename_i hd
        refine ⟨rfl, ?_⟩
        have : prm n := ⟨hw.1, hw.2, fun k q1 q2 => h3 k q1 (by
          rcases Int.lt_or_le k d with q | q
          · exact q
          · have := sq_le (by omega) q
            omega)⟩
        simp [isP, this]
    | _ => cases hw
theorem rng2_get {i j : Int} {k : Nat} {p : PV} (h : ((List.range (j - i).toNat).map fun (k : Nat) => PV.int (i + k))[k]? = some p) : i + k < j ∧ p = .int (i + k) := by
  obtain ⟨h1, h2⟩ := rng_get _ _ _ _ h
  exact ⟨by omega, h2⟩
theorem fn_law_prime (S : Stt) (p : PV) (h : Th p) : Fn (den__law_is_prime [p] S) (fun q s => s = S ∧ q = .bl (isP p)) noR := by
  refine no_implicit_lambda% (fn_run rfl ?_)
  unfold body__law_is_prime
  walk_at "fss"
  refine no_implicit_lambda% Fn.mono (fn_law_whole S p h) (fun q s h1 => ?_) fun _ _ _ h => h
  obtain ⟨rfl, rfl⟩ := h1
  rcases h with ⟨n, rfl⟩ | ⟨b, rfl⟩ | rfl | ⟨x, rfl⟩ | ⟨xs, rfl⟩
  rotate_left
  all_goals walk_at "fss"
  all_goals first
    | exact And.intro rfl rfl
    | (refine And.intro rfl ?_
       have : ¬ prm n := fun z => by
         have q1 := z.1
         have q2 := z.2.1
         omega
       simp [isP, this]
       done)
    | skip
  · with_reducible refine wp_for ?_
    walk_at "fss"
    refine x_rng2 (by decide) (by decide) (by decide) (by decide) ?_
    refine ⟨fun i e s' => s' = s ∧ (∀ k, 2 ≤ k → k < 2 + (i : Int) → n % k ≠ 0) ∧ ∃ x, e = [.val (.int n), x], ⟨rfl, fun k h1 h2 => by omega, .none, rfl⟩, fun i p e s' hi ⟨e1, h1, x, e2⟩ => ?_, fun e s' ⟨e1, h1, x, e2⟩ => ?_⟩
    · obtain ⟨hj, rfl⟩ := rng2_get hi
      subst e1 e2
      walk_at "fss"
      · refine ⟨rfl, ?_⟩
        have : prm n := ⟨by omega, by omega, fun k q1 q2 => h1 k q1 (by
          rcases Int.lt_or_le k (2 + i) with q | q
          · exact q
          · have := sq_le (by omega) q
            omega)⟩
        simp [isP, this]
      · rename_i hk
        refine ⟨rfl, ?_⟩
        rw [Int.mul_comm, ← Int.emod_def] at hk
        have : ¬ prm n := fun z => z.2.2 (2 + i) (by omega) (by omega) hk
        simp [isP, this]
      · rename_i hk
        rw [Int.mul_comm, ← Int.emod_def] at hk
        refine ⟨rfl, fun k q1 q2 => ?_, _, rfl⟩
        by_cases q : k = 2 + i
        · subst q
          exact hk
        · exact h1 k q1 (by omega)
    · subst e1 e2
      walk_at "fss"
      refine ⟨rfl, ?_⟩
      have e1 : (2 : Int) + ((List.range ((256 : Int) - 2).toNat).map fun (k : Nat) => PV.int (2 + k)).length = 256 := by rfl
      have : prm n := ⟨by omega, by omega, fun k q1 q2 => h1 k q1 (by
        rcases Int.lt_or_le k 256 with q | q
        · rw [e1]
          exact q
        · have := sq_le (by omega) q
          omega)⟩
      simp [isP, this]
end
end FS

set_option Elab.async false
set_option linter.all false
set_option maxRecDepth 100000
namespace FS
open PySem L2
section
local macro_rules | `(tactic| walk_at "okm") => `(tactic| first | (exact okMul_l (by omega)) | (exact okMul_r (by omega)) | decide)
local macro_rules | `(tactic| walk_at "fs1") => `(tactic| first
  | (with_reducible refine wp_ret ?_)
  | (with_reducible refine wp_seq ?_)
  | (with_reducible refine wp_sq ?_)
  | (with_reducible refine wp_sqr ?_)
  | (with_reducible refine wp_lq ?_)
  | (with_reducible refine wp_lqr ?_)
  | (with_reducible refine wp_fqr ?_)
  | (with_reducible refine wp_fqn ?_)
  | ((with_reducible show Wp (dUse _ _ _) _ _); refine no_implicit_lambda% (wp_use rfl ?_))
  | (with_reducible refine wp_op ?_)
  | (with_reducible refine wp_b ?_)
  | (with_reducible refine wp_if ?_)
  | (with_reducible refine wp_set ?_)
  | (with_reducible refine wp_dret ?_)
  | (with_reducible refine wp_nil ?_)
  | (with_reducible refine wp_cons ?_)
  | (with_reducible refine wp_fn ?_)
  | (with_reducible refine wp_call ?_)
  | (with_reducible refine wp_ife ?_)
  | (with_reducible refine wp_andT ?_)
  | (with_reducible refine wp_orT ?_)
  | (with_reducible refine wp_notT ?_)
  | (with_reducible refine wp_andV ?_)
  | (with_reducible refine wp_orV ?_)
  | (with_reducible refine wp_notV ?_)
  | (with_reducible refine wp_tru ?_)
  | (with_reducible refine wp_un ?_)
  | (with_reducible refine wp_chain ?_)
  | (with_reducible refine wp_frz ?_)
  | (with_reducible refine wp_disp ?_)
  | (with_reducible refine wp_tup ?_)
  | (with_reducible refine wp_new ?_)
  | (with_reducible refine wp_nxt ?_)
  | (with_reducible refine wp_setR ?_)
  | (with_reducible refine wp_cut ?_)
  | (with_reducible refine wp_noPart ?_)
  | (with_reducible refine wp_part ?_)
  | (with_reducible refine wp_list ?_)
  | (with_reducible refine wp_drop ?_)
  | (with_reducible refine wp_par ?_)
  | (with_reducible refine wp_asg ?_)
  | (with_reducible refine wp_gset ?_)
  | (with_reducible refine wp_raise ?_)
  | ((with_reducible show Wp (gTupD _ _ _ _ _) _ _); refine no_implicit_lambda% (wp_gtup rfl rfl ?_))
  | (with_reducible refine wp_gcons ?_)
  | (with_reducible refine wp_gnil ?_)
  | (with_reducible refine wp_items ?_)
  | (with_reducible refine wp_rng1 ?_)
  | (with_reducible refine wp_rng2 ?_)
  | (with_reducible refine wp_zip ?_)
  | (with_reducible refine x_add ?_)
  | (with_reducible refine x_sub ?_)
  | ((with_reducible refine x_mul ?_ ?_); (walk_at "okm"))
  | ((with_reducible refine x_div ?_ ?_ ?_); omega; omega)
  | ((with_reducible refine x_mod ?_ ?_); omega)
  | ((with_reducible refine x_pow ?_ ?_); decide)
  | (with_reducible refine x_lt ?_)
  | (with_reducible refine x_le ?_)
  | (with_reducible refine x_gt ?_)
  | (with_reducible refine x_ge ?_)
  | (with_reducible refine x_eq ?_)
  | (with_reducible refine x_ne ?_)
  | (with_reducible refine x_neg ?_)
  | (with_reducible refine x_bl ?_)
  | (with_reducible refine x_truB ?_)
  | ((with_reducible show ∃ k, _ = some (PV.bl k) ∧ _); refine x_chain rfl ?_)
  | (with_reducible refine wp_mthR ?_)
  | ((with_reducible show ∃ n ys, _ = PV.ref n ∧ _ = some (SO.lst ys) ∧ _); refine x_mR rfl rfl ?_)
  | ((with_reducible show _ ≤ sizeLine ∧ _); refine x_low rfl ?_)
  | ((with_reducible show List.length _ = _ ∧ _); refine x_num rfl ?_)
  | ((with_reducible show ∃ w, pIx _ _ _ = some w ∧ _); refine x_ix rfl ?_)
  | ((with_reducible show ∃ w, fLen _ _ = some w ∧ _); refine x_len rfl ?_)
  | ((with_reducible show ∃ w, fInt _ _ = some w ∧ _); refine x_int rfl ?_)
  | ((with_reducible refine x_isi (w := .bl true) ?_ ?_); exact rfl)
  | ((with_reducible refine x_isi (w := .bl false) ?_ ?_); exact rfl)
  | ((with_reducible show ∃ w, pCut _ _ _ _ = some w ∧ _); refine x_pcut rfl ?_)
  | ((with_reducible show ∃ w, itemsOf _ _ = some w ∧ _); refine x_itm rfl ?_)
  | ((with_reducible show ∃ w, itemsF _ = some w ∧ _); refine x_itF rfl ?_)
  | ((with_reducible show ∃ i, _ = PV.int i ∧ _); refine x_part rfl ?_)
  | ((with_reducible show ∃ p q, _ = [p, q] ∧ _); refine x_par rfl ?_)
  | ((with_reducible show ∃ n xs j m, _ = PV.ref n ∧ _ = PV.int j ∧ _ ∧ _ ∧ _); refine x_setR rfl rfl rfl rfl ?_))
local macro_rules | `(tactic| walk_at "fs") => `(tactic| repeat (walk_at "fs1"))
local macro_rules | `(tactic| walk_at "fsp") => `(tactic| (with_reducible refine x_spl ?_ ?_) <;> (intro h; first | (simp only [Bool.not_true, Bool.not_false, reduceCtorEq, decide_eq_true_eq, decide_eq_false_iff_not, Bool.not_eq_true', Bool.not_eq_false', Bool.and_eq_true, Int.not_lt, Int.not_le, Bool.or_eq_true, Bool.and_eq_false_iff, Bool.or_eq_false_iff, Bool.false_and, Bool.true_and, Bool.or_false, Bool.false_or, beq_self_eq_true, Bool.true_or, List.isEmpty_nil, List.isEmpty_cons] at h) | skip))
local macro_rules | `(tactic| walk_at "fss") => `(tactic| repeat' (first | (walk_at "fs1") | (walk_at "fsp")))
/-! K01MathB: inverses -/
/-- p has no divisor between -/
def PP1 (p : Int) : Prop := 1 < p ∧ p ≤ 65521 ∧ ∀ x, 0 < x → x < p → Int.gcd x p = 1
theorem prm_pp {p : Int} (h : prm p) : PP1 p := by
  refine ⟨by have := h.1; omega, h.2.1, fun x h0 h1 => ?_⟩
  have g1 : ((Int.gcd x p : Nat) : Int) ∣ x := Int.gcd_dvd_left ..
  have g2 : ((Int.gcd x p : Nat) : Int) ∣ p := Int.gcd_dvd_right ..
  generalize hg : ((Int.gcd x p : Nat) : Int) = g at g1 g2
  have hg0 : 0 < g := by
    rw [← hg]
    have : 0 < Int.gcd x p := Int.gcd_pos_of_ne_zero_left _ (by omega)
    omega
  have hle : g ≤ x := Int.le_of_dvd h0 g1
  by_cases q : g = 1
  · omega
  exfalso
  obtain ⟨c, hc⟩ := g2
  have hc1 : 1 < c := by
    rcases Int.lt_or_le 1 c with q1 | q1
    · exact q1
    · have := Int.mul_le_mul_of_nonneg_left q1 (Int.le_of_lt hg0)
      omega
  rcases Int.le_total g c with q1 | q1
  · refine h.2.2 g (by omega) ?_ ?_
    · rw [hc]
      exact Int.mul_le_mul_of_nonneg_left q1 (by omega)
    · rw [hc]
      exact Int.mul_emod_right g c
  · refine h.2.2 c (by omega) ?_ ?_
    · rw [hc]
      exact Int.mul_le_mul_of_nonneg_right q1 (by omega)
    · rw [hc]
      exact Int.mul_emod_left g c
theorem prm_of {n : Int} (h : 2 ≤ n ∧ n ≤ 65521) (hd : ∀ k : Nat, k < 256 → 2 ≤ k → k * k ≤ n.toNat → n.toNat % k ≠ 0) : prm n := by
  refine ⟨h.1, h.2, fun k h1 h2 h3 => ?_⟩
  have hk : k < 256 := by
    rcases Int.lt_or_le k 256 with q | q
    · exact q
    · have := sq_le (by decide) q
      omega
  have e1 : ((k.toNat : Nat) : Int) = k := Int.toNat_of_nonneg (by omega)
  have e2 : ((n.toNat : Nat) : Int) = n := Int.toNat_of_nonneg (by omega)
  refine hd k.toNat (by omega) (by omega) ?_ ?_
  · rw [← e1, ← e2] at h2
    exact_mod_cast h2
  · rw [← e1, ← e2] at h3
    exact_mod_cast h3
theorem prms : ∀ p ∈ [(2 : Int), 3, 5, 7, 11, 257, 32749, 65521], PP1 p := by
  intro p hp
  refine prm_pp ?_
  simp only [List.mem_cons, List.not_mem_nil, or_false] at hp
  rcases hp with rfl | rfl | rfl | rfl | rfl | rfl | rfl | rfl
  all_goals exact prm_of (by decide) (by decide +kernel)
theorem gcd_step {low high : Int} (h : Int.gcd low high = 1) : Int.gcd (high - high / low * low) low = 1 := by
  rw [Int.gcd_comm]
  simpa using h
theorem dvd_step {p o1 o2 a l h t : Int} (h1 : p ∣ o1 * a - l) (h2 : p ∣ o2 * a - h) : p ∣ (o2 - t * o1) * a - (h - t * l) := by
  obtain ⟨c1, e1⟩ := h1
  obtain ⟨c2, e2⟩ := h2
  refine ⟨c2 - t * c1, ?_⟩
  grind
theorem fn_inverse (S : Stt) (a p : Int) (hp : PP1 p) : Fn (den_inverse [.int a, .int p] S) (fun q s => s = S ∧ a % p ≠ 0 ∧ ∃ r, q = .int r ∧ 0 ≤ r ∧ r < p ∧ p ∣ r * a - 1) (fun c w s => c = "NoInverse" ∧ w = .int a ∧ s = S ∧ a % p = 0) := by
  obtain ⟨hp1, hp2, hp3⟩ := hp
  have m0 := fun a => Int.emod_nonneg a (b := p) (by omega)
  have m1 := fun a => Int.emod_lt_of_pos a (b := p) (by omega)
  refine no_implicit_lambda% (fn_run rfl ?_)
  unfold body_inverse
  walk_at "fss"
  · rename_i h
    exact ⟨rfl, rfl, rfl, h⟩
  · rename_i h
    have q0 := m0 a
    have q1 := m1 a
    refine wp_while (fun e s => s = S ∧ ∃ lo hi o1 o2 x, e = [.val (.int a), .val (.int p), .val (.int lo), .val (.int hi), .val (.int o1), .val (.int o2), x] ∧ 0 < lo ∧ lo < hi ∧ hi ≤ p ∧ Int.gcd lo hi = 1 ∧ p ∣ o1 * a - lo ∧ p ∣ o2 * a - hi)
      (fun e s => match e with | [_, _, .val (.int lo), _, _, _, _] => lo.toNat | _ => 0)
      ⟨rfl, a % p, p, 1, 0, .none, rfl, by omega, by omega, by omega, hp3 _ (by omega) (by omega), by rw [Int.one_mul]; exact Int.dvd_self_sub_emod, by rw [Int.zero_mul, Int.zero_sub]; exact Int.dvd_neg.mpr (Int.dvd_refl p)⟩ ?_
    intro e s ⟨e1, lo, hi, o1, o2, x, e2, h1, h2, h3, h4, h5, h6⟩
    subst e1 e2
    have t0 : 0 ≤ hi / lo := Int.ediv_nonneg (by omega) (by omega)
    have t1 : hi / lo ≤ hi := Int.ediv_le_self _ (by omega)
    walk_at "fss"
    · have d0 : hi - hi / lo * lo = hi % lo := by rw [Int.mul_comm, ← Int.emod_def]
      have d1 := Int.emod_nonneg hi (b := lo) (by omega)
      have d2 := Int.emod_lt_of_pos hi (b := lo) (by omega)
      have d3 : hi % lo ≠ 0 := fun z => by
        have g : Int.gcd lo (hi % lo) = 1 := by rw [← d0, Int.gcd_comm]; exact gcd_step h4
        rw [z, Int.gcd_zero_right] at g
        omega
      refine ⟨⟨rfl, _, _, _, _, _, rfl, by omega, by omega, by omega, gcd_step h4, dvd_step h5 h6, h5⟩, ?_⟩
      show (hi - hi / lo * lo).toNat < lo.toNat
      omega
    · have l1 : lo = 1 := by omega
      subst l1
      refine ⟨rfl, h, _, rfl, m0 _, m1 _, ?_⟩
      have : o1 % p * a - 1 = (o1 * a - 1) - p * (o1 / p * a) := by
        rw [Int.emod_def]
        grind
      rw [this]
      exact Int.dvd_sub h5 (Int.dvd_mul_right ..)
theorem fn_inverted (S : Stt) (a p : Int) (hp : PP1 p) : Fn (den__law_inverted [.int a, .int p] S) (fun q s => s = S ∧ ((a % p = 0 ∧ q = .tup [.str "refused", .int a]) ∨ (a % p ≠ 0 ∧ ∃ r, q = .tup [.int r] ∧ 0 ≤ r ∧ r < p ∧ p ∣ r * a - 1))) noR := by
  refine no_implicit_lambda% (fn_run rfl ?_)
  unfold body__law_inverted
  refine wp_try1 ?_
  walk_at "fss"
  refine no_implicit_lambda% Fn.mono (fn_inverse S a p hp) (fun q s ⟨e1, h1, r, e2, h2⟩ => ?_) fun c w s ⟨e1, e2, e3, h1⟩ => ?_
  · subst e1 e2
    walk_at "fss"
    exact ⟨rfl, .inr ⟨h1, r, rfl, h2⟩⟩
  · subst e1 e2 e3
    refine ⟨by decide, by decide, .ok (.ret (.tup [.str "refused", .int a])) [.val (.int a), .val (.int p), .none] s, fun x y => ?_, ?_⟩
    · simp [dRet, dIfE, bnd, Out.bind, dAndT, dTru, dIsE, dTup, dCons, dWhat, dNil, ret, catches, clearO, tru, sizeLine]
    · exact ⟨rfl, .inl ⟨h1, rfl⟩⟩
theorem eqv_tup1 (x : PV) (y : PV) : eqv (.tup [x]) (.tup [y]) = eqv x y := by
  simp [eqv, PV.toD, toDs, PyData.eqv, PyData.eqvAll]
theorem eqv_refused (a : Int) : eqv (.tup [.str "refused", .int a]) (.tup [.str "refused", .int a]) = true := by
  simp [eqv, PV.toD, toDs, PyData.eqv, PyData.eqvAll]
theorem ok_refused : PyData.strOk (Str.ofString "refused") = true := by decide +kernel
theorem okd_refused (S : Stt) (a : Int) : okd 60 (res S (.tup [.str "refused", .int a])) = true := by
  show okd 60 (.tup [.str "refused", .int a]) = true
  simp only [okd, List.all_cons, List.all_nil, ok_refused, Bool.and_self]
theorem fn_inverse_right (S : Stt) (a p : Int) (hp : PP1 p) : Fn (den__law_inverse_right [.int a, .int p] S) (fun q s => s = S ∧ q = .bl true) noR := by
  have hp1 := hp.1
  have hp2 := hp.2.1
  refine no_implicit_lambda% (fn_run rfl ?_)
  unfold body__law_inverse_right
  walk_at "fss"
  refine no_implicit_lambda% Fn.mono (fn_inverted S a p hp) (fun q s ⟨e1, h1⟩ => ?_) fun c w s h => h.elim
  subst e1
  have hm : a - a / p * p = a % p := by rw [Int.mul_comm, ← Int.emod_def]
  rcases h1 with ⟨h1, e1⟩ | ⟨h1, r, e1, h2, h3, h4⟩
  · subst e1
    walk_at "fss"
    · exact ⟨_, pEq_v (okd_refused s a) (okd_refused s a) rfl rfl (eqv_refused a), rfl, rfl⟩
    all_goals omega
  · subst e1
    walk_at "fss"
    · omega
    · exact absurd rfl ‹¬ (([PV.int r].length : Nat) : Int) = 1›
    · refine no_implicit_lambda% Fn.mono (fn_law_whole s (.int r) (.inl ⟨r, rfl⟩)) (fun q s' ⟨e1, e2⟩ => ?_) fun c w s h => h.elim
      subst e1 e2
      walk_at "fss"
      · omega
      · have : (r * a - 1) % p = 0 := Int.emod_eq_zero_of_dvd h4
        exact ⟨rfl, by rw [decide_eq_true this]⟩
      · omega
end
end FS

set_option Elab.async false
set_option linter.all false
set_option maxRecDepth 100000
namespace FS
open PySem L2
section
local macro_rules | `(tactic| walk_at "okm") => `(tactic| first | (exact okMul_l (by omega)) | (exact okMul_r (by omega)) | decide)
local macro_rules | `(tactic| walk_at "fs1") => `(tactic| first
  | (with_reducible refine wp_ret ?_)
  | (with_reducible refine wp_seq ?_)
  | (with_reducible refine wp_sq ?_)
  | (with_reducible refine wp_sqr ?_)
  | (with_reducible refine wp_lq ?_)
  | (with_reducible refine wp_lqr ?_)
  | (with_reducible refine wp_fqr ?_)
  | (with_reducible refine wp_fqn ?_)
  | ((with_reducible show Wp (dUse _ _ _) _ _); refine no_implicit_lambda% (wp_use rfl ?_))
  | (with_reducible refine wp_op ?_)
  | (with_reducible refine wp_b ?_)
  | (with_reducible refine wp_if ?_)
  | (with_reducible refine wp_set ?_)
  | (with_reducible refine wp_dret ?_)
  | (with_reducible refine wp_nil ?_)
  | (with_reducible refine wp_cons ?_)
  | (with_reducible refine wp_fn ?_)
  | (with_reducible refine wp_call ?_)
  | (with_reducible refine wp_ife ?_)
  | (with_reducible refine wp_andT ?_)
  | (with_reducible refine wp_orT ?_)
  | (with_reducible refine wp_notT ?_)
  | (with_reducible refine wp_andV ?_)
  | (with_reducible refine wp_orV ?_)
  | (with_reducible refine wp_notV ?_)
  | (with_reducible refine wp_tru ?_)
  | (with_reducible refine wp_un ?_)
  | (with_reducible refine wp_chain ?_)
  | (with_reducible refine wp_frz ?_)
  | (with_reducible refine wp_disp ?_)
  | (with_reducible refine wp_tup ?_)
  | (with_reducible refine wp_new ?_)
  | (with_reducible refine wp_nxt ?_)
  | (with_reducible refine wp_setR ?_)
  | (with_reducible refine wp_cut ?_)
  | (with_reducible refine wp_noPart ?_)
  | (with_reducible refine wp_part ?_)
  | (with_reducible refine wp_list ?_)
  | (with_reducible refine wp_drop ?_)
  | (with_reducible refine wp_par ?_)
  | (with_reducible refine wp_asg ?_)
  | (with_reducible refine wp_gset ?_)
  | (with_reducible refine wp_raise ?_)
  | ((with_reducible show Wp (gTupD _ _ _ _ _) _ _); refine no_implicit_lambda% (wp_gtup rfl rfl ?_))
  | (with_reducible refine wp_gcons ?_)
  | (with_reducible refine wp_gnil ?_)
  | (with_reducible refine wp_items ?_)
  | (with_reducible refine wp_rng1 ?_)
  | (with_reducible refine wp_rng2 ?_)
  | (with_reducible refine wp_zip ?_)
  | (with_reducible refine x_add ?_)
  | (with_reducible refine x_sub ?_)
  | ((with_reducible refine x_mul ?_ ?_); (walk_at "okm"))
  | ((with_reducible refine x_div ?_ ?_ ?_); omega; omega)
  | ((with_reducible refine x_mod ?_ ?_); omega)
  | ((with_reducible refine x_pow ?_ ?_); decide)
  | (with_reducible refine x_lt ?_)
  | (with_reducible refine x_le ?_)
  | (with_reducible refine x_gt ?_)
  | (with_reducible refine x_ge ?_)
  | (with_reducible refine x_eq ?_)
  | (with_reducible refine x_ne ?_)
  | (with_reducible refine x_neg ?_)
  | (with_reducible refine x_bl ?_)
  | (with_reducible refine x_truB ?_)
  | ((with_reducible show ∃ k, _ = some (PV.bl k) ∧ _); refine x_chain rfl ?_)
  | (with_reducible refine wp_mthR ?_)
  | ((with_reducible show ∃ n ys, _ = PV.ref n ∧ _ = some (SO.lst ys) ∧ _); refine x_mR rfl rfl ?_)
  | ((with_reducible show _ ≤ sizeLine ∧ _); refine x_low rfl ?_)
  | ((with_reducible show List.length _ = _ ∧ _); refine x_num rfl ?_)
  | ((with_reducible show ∃ w, pIx _ _ _ = some w ∧ _); refine x_ix rfl ?_)
  | ((with_reducible show ∃ w, fLen _ _ = some w ∧ _); refine x_len rfl ?_)
  | ((with_reducible show ∃ w, fInt _ _ = some w ∧ _); refine x_int rfl ?_)
  | ((with_reducible refine x_isi (w := .bl true) ?_ ?_); exact rfl)
  | ((with_reducible refine x_isi (w := .bl false) ?_ ?_); exact rfl)
  | ((with_reducible show ∃ w, pCut _ _ _ _ = some w ∧ _); refine x_pcut rfl ?_)
  | ((with_reducible show ∃ w, itemsOf _ _ = some w ∧ _); refine x_itm rfl ?_)
  | ((with_reducible show ∃ w, itemsF _ = some w ∧ _); refine x_itF rfl ?_)
  | ((with_reducible show ∃ i, _ = PV.int i ∧ _); refine x_part rfl ?_)
  | ((with_reducible show ∃ p q, _ = [p, q] ∧ _); refine x_par rfl ?_)
  | ((with_reducible show ∃ n xs j m, _ = PV.ref n ∧ _ = PV.int j ∧ _ ∧ _ ∧ _); refine x_setR rfl rfl rfl rfl ?_))
local macro_rules | `(tactic| walk_at "fs") => `(tactic| repeat (walk_at "fs1"))
local macro_rules | `(tactic| walk_at "fsp") => `(tactic| (with_reducible refine x_spl ?_ ?_) <;> (intro h; first | (simp only [Bool.not_true, Bool.not_false, reduceCtorEq, decide_eq_true_eq, decide_eq_false_iff_not, Bool.not_eq_true', Bool.not_eq_false', Bool.and_eq_true, Int.not_lt, Int.not_le, Bool.or_eq_true, Bool.and_eq_false_iff, Bool.or_eq_false_iff, Bool.false_and, Bool.true_and, Bool.or_false, Bool.false_or, beq_self_eq_true, Bool.true_or, List.isEmpty_nil, List.isEmpty_cons] at h) | skip))
local macro_rules | `(tactic| walk_at "fss") => `(tactic| repeat' (first | (walk_at "fs1") | (walk_at "fsp")))
/-! K01MathC: ways to choose -/
def ch : Nat → Nat → Nat
  | _, 0 => 1
  | 0, _ + 1 => 0
  | n + 1, k + 1 => ch n k + ch n (k + 1)
theorem ch_zero : ∀ (n k : Nat), n < k → ch n k = 0
  | 0, k + 1, _ => rfl
  | n + 1, k + 1, h => by
    show ch n k + ch n (k + 1) = 0
    rw [ch_zero n k (by omega), ch_zero n (k + 1) (by omega)]
theorem ch_0 (n : Nat) : ch n 0 = 1 := by cases n <;> rfl
theorem ch_diag : ∀ n, ch n n = 1
  | 0 => rfl
  | n + 1 => by
    show ch n n + ch n (n + 1) = 1
    rw [ch_diag n, ch_zero n (n + 1) (by omega)]
theorem ch_next : ∀ (n k : Nat), k ≤ n → ch n (k + 1) * (k + 1) = ch n k * (n - k)
  | 0, 0, _ => rfl
  | n + 1, k, h => by
    have A : ∀ k, k ≤ n → (k + 1) * ch (n + 1) (k + 1) = (n + 1) * ch n k := fun k hk => by
      have h1 := ch_next n k hk
      show (k + 1) * (ch n k + ch n (k + 1)) = _
      obtain ⟨d, rfl⟩ : ∃ d, n = k + d := ⟨n - k, by omega⟩
      have e : k + d - k = d := by omega
      rw [e] at h1
      grind
    match k, h with
    | 0, _ =>
      have := A 0 (by omega)
      have e : ch (n + 1) 0 = 1 := by unfold ch; rfl
      have e2 : ch n 0 = 1 := by unfold ch; rfl
      rw [e]
      rw [e2] at this
      omega
    | k + 1, h =>
      have h1 := ch_next n k (by omega)
      obtain ⟨d, rfl⟩ : ∃ d, n = k + d := ⟨n - k, by omega⟩
      have e : k + d - k = d := by omega
      have e2 : k + d + 1 - (k + 1) = d := by omega
      rw [e] at h1
      rw [e2]
      show ch (k + d + 1) (k + 1 + 1) * (k + 1 + 1) = (ch (k + d) k + ch (k + d) (k + 1)) * d
      by_cases hd : d = 0
      · subst hd
        rw [ch_zero _ _ (by omega)]
        omega
      · have := A (k + 1) (by omega)
        grind
theorem fn_ways (S : Stt) (n j : Nat) (hn : n < 1000) (hj : j < 1000) : Fn (den__law_ways [.int n, .int j] S) (fun q s => s = S ∧ q = .int (ch n j : Nat)) noR := by
  refine no_implicit_lambda% (fn_run rfl ?_)
  unfold body__law_ways
  walk_at "fss"
  with_reducible refine wp_for ?_
  walk_at "fss"
  refine ⟨_, rfl, ?_⟩
  walk_at "fss"
  have hm : (if (n : Int) < (j : Int) then (n : Int) else (j : Int)) = ((min j n : Nat) : Int) := by
    split <;> omega
  rw [hm]
  refine x_rng1 (by omega) (by omega) ?_
  rw [Int.toNat_natCast]
  refine ⟨fun i e s => s = S ∧ ∃ x, e = [.val (.int n), .val (.int j), .val (.int (ch n i : Nat)), x], ⟨rfl, .none, by rw [ch_0]; rfl⟩, fun i p e s hi ⟨e1, x, e2⟩ => ?_, fun e s ⟨e1, x, e2⟩ => ?_⟩
  · obtain ⟨hj, rfl⟩ := rng_get _ _ _ _ hi
    subst e1 e2
    walk_at "fss"
    refine ⟨rfl, .val (.int i), ?_⟩
    have h1 := ch_next n i (by omega)
    have e : ((ch n i : Nat) : Int) * ((n : Int) - (i : Int)) / ((i : Int) + 1) = ((ch n (i + 1) : Nat) : Int) := by
      have e1 : ((n : Int) - (i : Int)) = ((n - i : Nat) : Int) := by omega
      have e2 : ((i : Int) + 1) = ((i + 1 : Nat) : Int) := by omega
      rw [e1, e2, ← Int.natCast_mul, ← h1, Int.natCast_mul]
      exact Int.mul_ediv_cancel _ (by omega)
    rw [← e]
    rfl
  · subst e1 e2
    rw [List.length_map, List.length_range]
    walk_at "fss"
    · have e : min j n = j := by omega
      rw [e]
      exact ⟨rfl, rfl⟩
    · rw [ch_zero n j (by omega)]
      exact ⟨rfl, rfl⟩
theorem cut1 (xs : List PV) : cutP xs (some 1) none = xs.drop 1 := by
  unfold cutP
  have e : HT.sIx xs.length 0 (some ((1 : Nat) : Int)) = min 1 xs.length := HT.sIx_nat _ _ _
  show List.take (HT.sIx xs.length xs.length none - HT.sIx xs.length 0 (some ((1 : Nat) : Int))) (List.drop (HT.sIx xs.length 0 (some ((1 : Nat) : Int))) xs) = _
  rw [e, HT.sIx_none]
  cases xs with
  | nil => rfl
  | cons x xs =>
    have e1 : min 1 (x :: xs).length = 1 := by
      rw [List.length_cons]
      omega
    rw [e1]
    exact List.take_of_length_le (by simp)
/-- a row of Pascal's, as the program keeps it -/
def Row (p : Int) (i : Nat) (ys : List PV) : Prop := ys.length = i + 1 ∧ ∀ k, k ≤ i → ∃ v : Int, ys[k]? = some (.int v) ∧ v % p = (ch i k : Nat) % p
theorem row_next {p : Int} {i : Nat} {acc : List PV} (hl : acc.length = i + 1 - 1 + 0) (h : ∀ k, k < i → ∃ v : Int, acc[k]? = some (.int v) ∧ v % p = ((ch i k : Nat) + (ch i (k + 1) : Nat) : Int) % p) : Row p (i + 1) ([.int 1] ++ acc ++ [.int 1]) := by
  refine ⟨by simp; omega, fun k hk => ?_⟩
  match k with
  | 0 => exact ⟨1, rfl, by rw [ch_0]; rfl⟩
  | k + 1 =>
    by_cases q : k < i
    · obtain ⟨v, e1, e2⟩ := h k q
      refine ⟨v, ?_, ?_⟩
      · rw [List.append_assoc]
        show (PV.int 1 :: (acc ++ [.int 1]))[k + 1]? = _
        rw [List.getElem?_cons_succ, List.getElem?_append_left (by omega)]
        exact e1
      · rw [e2]
        show _ = (((ch i k + ch i (k + 1) : Nat)) : Int) % p
        rw [Int.natCast_add]
    · have e : k = i := by omega
      subst e
      refine ⟨1, ?_, by rw [ch_diag]; rfl⟩
      rw [List.append_assoc]
      show (PV.int 1 :: (acc ++ [.int 1]))[k + 1]? = _
      rw [List.getElem?_cons_succ, List.getElem?_append_right (by omega)]
      have : k - acc.length = 0 := by omega
      rw [this]
      rfl
theorem row_zero (p : Int) : Row p 0 [.int 1] := ⟨rfl, fun k hk => by
  have : k = 0 := by omega
  subst this
  exact ⟨1, rfl, rfl⟩⟩
theorem pAdd_lst (S : Stt) (xs ys : List PV) (h : xs.length + ys.length ≤ sizeLine) : pAdd S (.lst xs) (.lst ys) = some (.lst (xs ++ ys)) := by
  show (if xs.length + ys.length ≤ sizeLine then some (PV.lst (xs ++ ys)) else none) = _
  rw [if_pos h]
theorem x_addL {s : Stt} {xs ys : List PV} {Q : PV → Prop} (h : xs.length + ys.length ≤ sizeLine) (hq : Q (.lst (xs ++ ys))) : ∃ w, pAdd s (.lst xs) (.lst ys) = some w ∧ Q w := ⟨_, pAdd_lst s xs ys h, hq⟩
theorem zip_get2 {xs ys : List PV} {i : Nat} {p : PV} (h : ((xs.zip ys).map fun c => PV.tup [c.1, c.2])[i]? = some p) : ∃ x y, xs[i]? = some x ∧ ys[i]? = some y ∧ p = .tup [x, y] := by
  rw [List.getElem?_map] at h
  cases q : (xs.zip ys)[i]? with
  | none => rw [q] at h; cases h
  | some c =>
    rw [q] at h
    obtain ⟨h1, h2⟩ := List.getElem?_zip_eq_some.mp q
    exact ⟨c.1, c.2, h1, h2, (Option.some.inj h).symm⟩
theorem fn_choose (S : Stt) (n j : Nat) (p : Int) (hn : n < 1000) (hj : j < 1000) (hp : 1 < p) : Fn (den_choose [.int n, .int j, .int p] S) (fun q s => s = S ∧ q = .int ((ch n j : Nat) % p)) noR := by
  refine no_implicit_lambda% (fn_run rfl ?_)
  unfold body_choose
  walk_at "fss"
  · rw [ch_zero n j (by omega)]
    exact ⟨rfl, rfl⟩
  · with_reducible refine wp_for ?_
    walk_at "fss"
    refine x_rng1 (by omega) (by omega) ?_
    rw [Int.toNat_natCast]
    refine ⟨fun i e s => s = S ∧ ∃ ys x, e = [.val (.int n), .val (.int j), .val (.int p), .val (.lst ys), x, .none, .none] ∧ Row p i ys, ⟨rfl, _, .none, rfl, row_zero p⟩, fun i t e s hi ⟨e1, ys, x, e2, hr⟩ => ?_, fun e s ⟨e1, ys, x, e2, hr⟩ => ?_⟩
    · obtain ⟨hj, rfl⟩ := rng_get _ _ _ _ hi
      subst e1 e2
      walk_at "fss"
      with_reducible refine wp_comp ?_
      walk_at "fss"
      refine ⟨_, rfl, ?_⟩
      rw [cut1]
      have hl1 := hr.1
      have hl2 : ((ys.zip (ys.drop 1)).map fun c => PV.tup [c.1, c.2]).length = i := by
        rw [List.length_map, List.length_zip, List.length_drop]
        omega
      refine ⟨fun m acc e s' => s' = s ∧ acc.length = m ∧ (∀ k, k < m → ∃ v : Int, acc[k]? = some (.int v) ∧ v % p = ((ch i k : Nat) + (ch i (k + 1) : Nat) : Int) % p) ∧ e = [.val (.int n), .val (.int j), .val (.int p), .val (.lst ys), .val (.int i), .none, .none], ⟨rfl, rfl, fun k hk => absurd hk (Nat.not_lt_zero k), rfl⟩, fun m t acc e s' hm ⟨e1, h1, h2, e2⟩ => ?_, fun acc e s' ⟨e1, h1, h2, e2⟩ => ?_⟩
      · have hm2 : m < i := by
          rcases Nat.lt_or_ge m i with q | q
          · exact q
          · rw [List.getElem?_eq_none (by rw [hl2]; exact q)] at hm
            cases hm
        obtain ⟨u, v, q1, q2, rfl⟩ := zip_get2 hm
        obtain ⟨a, a1, a2⟩ := hr.2 m (by omega)
        obtain ⟨b, b1, b2⟩ := hr.2 (m + 1) (by omega)
        rw [List.getElem?_drop, Nat.add_comm] at q2
        have hu : u = .int a := Option.some.inj (q1.symm.trans a1)
        have hv : v = .int b := Option.some.inj (q2.symm.trans b1)
        subst e1 e2 hu hv
        walk_at "fss"
        refine ⟨by have : i < 1000 := by omega
                   unfold sizeLine
                   omega, rfl, by simp [h1], fun k hk => ?_, rfl⟩
        by_cases q : k < m
        · obtain ⟨w, w1, w2⟩ := h2 k q
          exact ⟨w, by rw [List.getElem?_append_left (by omega)]; exact w1, w2⟩
        · have e : k = m := by omega
          subst e
          refine ⟨(a + b) % p, by rw [List.getElem?_append_right (by omega), h1, Nat.sub_self]; rfl, ?_⟩
          rw [Int.emod_emod_of_dvd _ (Int.dvd_refl p), Int.add_emod, a2, b2, ← Int.add_emod]
      · rw [hl2] at h1 h2
        subst e1 e2
        have hsz : i + 2 ≤ sizeLine := by
          unfold sizeLine
          omega
        refine x_addL (by simp [h1]; omega) ?_
        walk_at "fss"
        refine x_addL (by simp [h1]; omega) ?_
        walk_at "fss"
        exact ⟨rfl, _, _, rfl, row_next (by omega) h2⟩
    · subst e1 e2
      rw [List.length_map, List.length_range] at hr
      obtain ⟨v, h1, h2⟩ := hr.2 j (by omega)
      walk_at "fss"
      refine x_ix (atI_nat h1) ?_
      walk_at "fss"
      exact ⟨rfl, by rw [h2]⟩
end
end FS

set_option Elab.async false
set_option linter.all false
set_option maxRecDepth 100000
namespace FS
open PySem L2
section
local macro_rules | `(tactic| walk_at "okm") => `(tactic| first | (exact okMul_l (by omega)) | (exact okMul_r (by omega)) | decide)
local macro_rules | `(tactic| walk_at "fs1") => `(tactic| first
  | (with_reducible refine wp_ret ?_)
  | (with_reducible refine wp_seq ?_)
  | (with_reducible refine wp_sq ?_)
  | (with_reducible refine wp_sqr ?_)
  | (with_reducible refine wp_lq ?_)
  | (with_reducible refine wp_lqr ?_)
  | (with_reducible refine wp_fqr ?_)
  | (with_reducible refine wp_fqn ?_)
  | ((with_reducible show Wp (dUse _ _ _) _ _); refine no_implicit_lambda% (wp_use rfl ?_))
  | (with_reducible refine wp_op ?_)
  | (with_reducible refine wp_b ?_)
  | (with_reducible refine wp_if ?_)
  | (with_reducible refine wp_set ?_)
  | (with_reducible refine wp_dret ?_)
  | (with_reducible refine wp_nil ?_)
  | (with_reducible refine wp_cons ?_)
  | (with_reducible refine wp_fn ?_)
  | (with_reducible refine wp_call ?_)
  | (with_reducible refine wp_ife ?_)
  | (with_reducible refine wp_andT ?_)
  | (with_reducible refine wp_orT ?_)
  | (with_reducible refine wp_notT ?_)
  | (with_reducible refine wp_andV ?_)
  | (with_reducible refine wp_orV ?_)
  | (with_reducible refine wp_notV ?_)
  | (with_reducible refine wp_tru ?_)
  | (with_reducible refine wp_un ?_)
  | (with_reducible refine wp_chain ?_)
  | (with_reducible refine wp_frz ?_)
  | (with_reducible refine wp_disp ?_)
  | (with_reducible refine wp_tup ?_)
  | (with_reducible refine wp_new ?_)
  | (with_reducible refine wp_nxt ?_)
  | (with_reducible refine wp_setR ?_)
  | (with_reducible refine wp_cut ?_)
  | (with_reducible refine wp_noPart ?_)
  | (with_reducible refine wp_part ?_)
  | (with_reducible refine wp_list ?_)
  | (with_reducible refine wp_drop ?_)
  | (with_reducible refine wp_par ?_)
  | (with_reducible refine wp_asg ?_)
  | (with_reducible refine wp_gset ?_)
  | (with_reducible refine wp_raise ?_)
  | ((with_reducible show Wp (gTupD _ _ _ _ _) _ _); refine no_implicit_lambda% (wp_gtup rfl rfl ?_))
  | (with_reducible refine wp_gcons ?_)
  | (with_reducible refine wp_gnil ?_)
  | (with_reducible refine wp_items ?_)
  | (with_reducible refine wp_rng1 ?_)
  | (with_reducible refine wp_rng2 ?_)
  | (with_reducible refine wp_zip ?_)
  | (with_reducible refine x_add ?_)
  | (with_reducible refine x_sub ?_)
  | ((with_reducible refine x_mul ?_ ?_); (walk_at "okm"))
  | ((with_reducible refine x_div ?_ ?_ ?_); omega; omega)
  | ((with_reducible refine x_mod ?_ ?_); omega)
  | ((with_reducible refine x_pow ?_ ?_); decide)
  | (with_reducible refine x_lt ?_)
  | (with_reducible refine x_le ?_)
  | (with_reducible refine x_gt ?_)
  | (with_reducible refine x_ge ?_)
  | (with_reducible refine x_eq ?_)
  | (with_reducible refine x_ne ?_)
  | (with_reducible refine x_neg ?_)
  | (with_reducible refine x_bl ?_)
  | (with_reducible refine x_truB ?_)
  | ((with_reducible show ∃ k, _ = some (PV.bl k) ∧ _); refine x_chain rfl ?_)
  | (with_reducible refine wp_mthR ?_)
  | ((with_reducible show ∃ n ys, _ = PV.ref n ∧ _ = some (SO.lst ys) ∧ _); refine x_mR rfl rfl ?_)
  | ((with_reducible show _ ≤ sizeLine ∧ _); refine x_low rfl ?_)
  | ((with_reducible show List.length _ = _ ∧ _); refine x_num rfl ?_)
  | ((with_reducible show ∃ w, pIx _ _ _ = some w ∧ _); refine x_ix rfl ?_)
  | ((with_reducible show ∃ w, fLen _ _ = some w ∧ _); refine x_len rfl ?_)
  | ((with_reducible show ∃ w, fInt _ _ = some w ∧ _); refine x_int rfl ?_)
  | ((with_reducible refine x_isi (w := .bl true) ?_ ?_); exact rfl)
  | ((with_reducible refine x_isi (w := .bl false) ?_ ?_); exact rfl)
  | ((with_reducible show ∃ w, pCut _ _ _ _ = some w ∧ _); refine x_pcut rfl ?_)
  | ((with_reducible show ∃ w, itemsOf _ _ = some w ∧ _); refine x_itm rfl ?_)
  | ((with_reducible show ∃ w, itemsF _ = some w ∧ _); refine x_itF rfl ?_)
  | ((with_reducible show ∃ i, _ = PV.int i ∧ _); refine x_part rfl ?_)
  | ((with_reducible show ∃ p q, _ = [p, q] ∧ _); refine x_par rfl ?_)
  | ((with_reducible show ∃ n xs j m, _ = PV.ref n ∧ _ = PV.int j ∧ _ ∧ _ ∧ _); refine x_setR rfl rfl rfl rfl ?_))
local macro_rules | `(tactic| walk_at "fs") => `(tactic| repeat (walk_at "fs1"))
local macro_rules | `(tactic| walk_at "fsp") => `(tactic| (with_reducible refine x_spl ?_ ?_) <;> (intro h; first | (simp only [Bool.not_true, Bool.not_false, reduceCtorEq, decide_eq_true_eq, decide_eq_false_iff_not, Bool.not_eq_true', Bool.not_eq_false', Bool.and_eq_true, Int.not_lt, Int.not_le, Bool.or_eq_true, Bool.and_eq_false_iff, Bool.or_eq_false_iff, Bool.false_and, Bool.true_and, Bool.or_false, Bool.false_or, beq_self_eq_true, Bool.true_or, List.isEmpty_nil, List.isEmpty_cons] at h) | skip))
local macro_rules | `(tactic| walk_at "fss") => `(tactic| repeat' (first | (walk_at "fs1") | (walk_at "fsp")))
/-! K01MathD: the law -/
theorem go_draw {S : Stt} {many : Int} {Q : PV → Stt → Prop} {R : Str → PV → Stt → Prop} (h : Pool S) (h0 : 0 < many) (h1 : many < 1000000000000000000000) (k : ∀ S' v, Pool S' → 0 ≤ v → v < many → Q (.int v) S') : Fn (den__law_draw [.ref 1, .int many] S) Q R :=
  Fn.mono (fn_draw S h many h0 h1) (fun p s ⟨a, v, e, b, c⟩ => e ▸ k s v a b c) fun _ _ _ h => h.elim
theorem go_pick {S : Stt} {xs : List PV} {Q : PV → Stt → Prop} {R : Str → PV → Stt → Prop} (h : Pool S) (h0 : xs ≠ []) (h1 : xs.length < 1000000) (k : ∀ S' p, Pool S' → p ∈ xs → Q p S') : Fn (den__law_pick [.ref 1, .lst xs] S) Q R :=
  Fn.mono (fn_pick S h xs h0 h1) (fun p s ⟨a, b⟩ => k s p a b) fun _ _ _ h => h.elim
theorem Wp.mono' {α : Type} {e : Env} {s : Stt} {d : Cd α} (Q : Pq α) (R : Pr) {Q' : Pq α} {R' : Pr} (h : Wp (d e s) Q R) (hq : ∀ a e s, Q a e s → Q' a e s) (hr : ∀ c w e s, R c w e s → R' c w e s) : Wp (d e s) Q' R' := Wp.mono h hq hr
local macro_rules | `(tactic| walk_at "fd1") => `(tactic| first
  | ((with_reducible refine go_draw ?_ ?_ ?_ ?_); assumption; (first | omega | decide); (first | omega | decide); intro s' v hp hv0 hv1)
  | (walk_at "fs1") | (walk_at "fsp"))
local macro_rules | `(tactic| walk_at "fd") => `(tactic| repeat' (walk_at "fd1"))
theorem Th_int (n : Int) : Th (.int n) := .inl ⟨n, rfl⟩
theorem fn_primes_right (S : Stt) (h : Pool S) : Fn (den__law_primes_right [.ref 1] S) (fun q s => Pool s ∧ q = .bl true) noR := by
  refine no_implicit_lambda% (fn_run rfl ?_)
  unfold body__law_primes_right
  walk_at "fd"
  refine no_implicit_lambda% go_pick h (by simp) (by decide) (fun s p hp hm => ?_)
  have hq : ∃ n, p = .int n ∧ 2 ≤ n ∧ n ≤ 251 := by
    simp only [List.mem_cons, List.not_mem_nil, or_false] at hm
    rcases hm with rfl | rfl | rfl | rfl | rfl | rfl | rfl | rfl <;> exact ⟨_, rfl, by decide, by decide⟩
  obtain ⟨n, rfl, hn1, hn2⟩ := hq
  walk_at "fd"
  refine no_implicit_lambda% go_pick (by assumption) (by simp) (by decide) (fun s x hp hm => ?_)
  have hx : Th x := by
    simp only [List.mem_cons, List.not_mem_nil, or_false] at hm
    unfold Th
    rcases hm with rfl | rfl | rfl | rfl | rfl | rfl | rfl | rfl | rfl | rfl <;> simp
  walk_at "fd"
  refine x_addL (Nat.le_of_ble_eq_true rfl) ?_
  walk_at "fd"
  with_reducible refine wp_for ?_
  walk_at "fd"
  refine ⟨fun i e s => Pool s ∧ ∃ a b c x3 x4, e = [a, b, c, x3, x4], ⟨hp, _, _, _, _, _, rfl⟩, fun i p e s hi ⟨h1, a, b, c, x3, x4, e2⟩ => ?_, fun e s ⟨h1, a, b, c, x3, x4, e2⟩ => ?_⟩
  · have hT : Th p := by
      have := List.mem_of_getElem? hi
      simp only [List.mem_append, List.mem_cons, List.not_mem_nil, or_false] at this
      rcases this with (rfl | rfl | rfl | rfl | rfl | rfl | rfl | rfl) | rfl
      all_goals first | exact Th_int _ | exact hx
    subst e2
    walk_at "fd"
    refine no_implicit_lambda% Fn.mono (fn_is_prime s p hT) (fun q s' ⟨e1, e2⟩ => ?_) fun _ _ _ h => h.elim
    subst e1 e2
    walk_at "fd"
    refine no_implicit_lambda% Fn.mono (fn_law_prime s' p hT) (fun q s ⟨e1, e2⟩ => ?_) fun _ _ _ h => h.elim
    subst e1 e2
    refine ⟨_, pNe_v rfl rfl rfl rfl (show eqv (.bl (isP p)) (.bl (isP p)) = true by unfold eqv PV.toD; unfold PyData.eqv; exact beq_self_eq_true _), ?_⟩
    walk_at "fd"
    exact ⟨h1, _, _, _, _, _, rfl⟩
  · subst e2
    walk_at "fd"
    exact ⟨h1, rfl⟩
theorem law_true (ns : List Int) (hns : ns.length ≤ 63) : ∃ S, den_law [.scr ns] [] = .ok (.bl true) S := by
  suffices h : Fn (den_law [.scr ns] []) (fun q _ => q = .bl true) noR by
    obtain ⟨p, s, e, h⟩ := h.ok
    exact ⟨s, by rw [e, h]⟩
  refine no_implicit_lambda% (fn_run rfl ?_)
  unfold body_law
  walk_at "fd"
  refine no_implicit_lambda% Fn.mono (fn_pool ns) (fun q S ⟨e1, hS⟩ => ?_) fun _ _ _ h => h.elim
  subst e1
  walk_at "fd"
  refine no_implicit_lambda% Fn.mono (fn_primes_right S hS) (fun q S ⟨hS, e1⟩ => ?_) fun _ _ _ h => h.elim
  subst e1
  walk_at "fd"
  refine no_implicit_lambda% go_pick hS (by simp) (by decide) (fun s p hp hm => ?_)
  have hq : ∃ n, p = .int n ∧ n ∈ [(2 : Int), 3, 5, 7, 11, 257, 32749, 65521] := by
    simp only [List.mem_cons, List.not_mem_nil, or_false] at hm
    rcases hm with rfl | rfl | rfl | rfl | rfl | rfl | rfl | rfl | rfl <;> exact ⟨_, rfl, by decide⟩
  obtain ⟨p, rfl, hpl⟩ := hq
  have hpp := prms p hpl
  have hp1 := hpp.1
  have hp2 := hpp.2.1
  walk_at "fd"
  with_reducible refine wp_for ?_
  walk_at "fd"
  rename_i s1 v1 hs1 hv1 hv1' s2 v2 hs2 hv2 hv2' s3 v3 hs3 hv3 hv3'
  refine ⟨fun i e s => Pool s ∧ ∃ x, e = [.val (.scr ns), .val (.ref 1), .val (.int p), x, .none, .none, .none, .none], ⟨hs3, _, rfl⟩, fun i t e s hi ⟨h1, x, e2⟩ => ?_, fun e s ⟨h1, x, e2⟩ => ?_⟩
  · have ht : ∃ a, t = .int a := by
      have := List.mem_of_getElem? hi
      simp only [List.mem_cons, List.not_mem_nil, or_false] at this
      rcases this with rfl | rfl | rfl | rfl | rfl <;> exact ⟨_, rfl⟩
    obtain ⟨a, rfl⟩ := ht
    subst e2
    walk_at "fd"
    refine no_implicit_lambda% Fn.mono (fn_inverse_right s a p hpp) (fun q S ⟨e1, e2⟩ => ?_) fun _ _ _ h => h.elim
    subst e1 e2
    walk_at "fd"
    exact ⟨h1, _, rfl⟩
  · subst e2
    walk_at "fd"
    with_reducible refine wp_for ?_
    walk_at "fd"
    refine x_rng1 (by decide) (by decide) ?_
    refine ⟨fun i e s => Pool s ∧ ∃ x3 x4 x5 x6 x7, e = [.val (.scr ns), .val (.ref 1), .val (.int p), x3, x4, x5, x6, x7], ⟨h1, _, _, _, _, _, rfl⟩, fun i t e s hi ⟨h1, x3, x4, x5, x6, x7, e2⟩ => ?_, fun e s ⟨h1, x3, x4, x5, x6, x7, e2⟩ => ?_⟩
    · subst e2
      walk_at "fd"
      rename_i s1 v1 hs1 hv1 hv1' s2 v2 hs2 hv2 hv2' s3 v3 hs3 hv3 hv3'
      refine no_implicit_lambda% go_pick hs3 (by simp) (Nat.le_of_ble_eq_true rfl) (fun s q hp hm => ?_)
      have hq : ∃ n : Nat, q = .int n := by
        simp only [List.mem_cons, List.not_mem_nil, or_false] at hm
        have nat : ∀ v : Int, 0 ≤ v → ∃ n : Nat, PV.int v = .int n := fun v hv => ⟨v.toNat, by rw [Int.toNat_of_nonneg hv]⟩
        rcases hm with rfl | rfl | rfl | rfl | rfl | rfl <;> exact nat _ (by omega)
      obtain ⟨n, rfl⟩ := hq
      iterate 3 (walk_at "fs1")
      refine no_implicit_lambda% Wp.mono' (fun q e' s' => e' = [.val (.scr ns), .val (.ref 1), .val (.int p), x3, .val t, .val (.int n), x6, x7] ∧ s' = s ∧ ∃ m : Nat, q = .int m ∧ m < 100) (fun _ _ _ _ => False) ?_ (fun q e' s' ⟨h1, h2, m, h3, h4⟩ => ?_) (fun _ _ _ _ h => False.elim h)
      · walk_at "fd"
        · exact ⟨rfl, rfl, n, rfl, by omega⟩
        · exact ⟨rfl, rfl, 9, rfl, by omega⟩
      subst h1 h2 h3
      walk_at "fd"
      rename_i s4 v4 hs4 hv4 hv4'
      refine no_implicit_lambda% go_pick hs4 (by simp) (Nat.le_of_ble_eq_true rfl) (fun s q hp hm => ?_)
      have hq : ∃ j : Nat, q = .int j ∧ j < 1000 := by
        simp only [List.mem_cons, List.not_mem_nil, or_false] at hm
        have nat : ∀ v : Int, 0 ≤ v → v < 1000 → ∃ n : Nat, PV.int v = .int n ∧ n < 1000 := fun v hv hv' => ⟨v.toNat, by rw [Int.toNat_of_nonneg hv], by omega⟩
        rcases hm with rfl | rfl | rfl | rfl | rfl | rfl <;> exact nat _ (by omega) (by omega)
      obtain ⟨j, rfl, hj⟩ := hq
      walk_at "fd"
      refine no_implicit_lambda% Fn.mono (fn_choose s m j p (by omega) hj hp1) (fun q S ⟨e1, e2⟩ => ?_) fun _ _ _ h => h.elim
      subst e1 e2
      walk_at "fd"
      refine no_implicit_lambda% Fn.mono (fn_law_whole S _ (Th_int _)) (fun q S ⟨e1, e2⟩ => ?_) fun _ _ _ h => h.elim
      subst e1 e2
      walk_at "fd"
      refine no_implicit_lambda% Fn.mono (fn_ways S m j (by omega) hj) (fun q S ⟨e1, e2⟩ => ?_) fun _ _ _ h => h.elim
      subst e1 e2
      walk_at "fd"
      refine no_implicit_lambda% Fn.mono (fn_ways S m j (by omega) hj) (fun q S ⟨e1, e2⟩ => ?_) fun _ _ _ h => h.elim
      subst e1 e2
      walk_at "fd"
      · rename_i h
        rw [Int.emod_def, Int.mul_comm] at h
        exact absurd rfl h
      · exact ⟨hp, _, _, _, _, _, rfl⟩
    · subst e2
      walk_at "fd"
      rfl
end
end FS

set_option Elab.async false
set_option linter.all false
set_option maxRecDepth 100000
/-! K01Walk: the walk of law_k01_primes_and_inverses (printed by our gen.py) -/
namespace FS
open PySem PySem.Spec L2
def topS (i : Nat) : Stmt := PySem.Challenge.pw_firstsafe_k01_primes_and_inverses.main.body.getD i (.Pass ⟨0, 0, 0, 0⟩)
/-! ### what the names of the module hold -/
structure Tx (K : PySem.W.Frag) (mg : Str → Option Value) : Prop where
  b_bool : mg "bool" = none
  b_int : mg "int" = none
  b_isinstance : mg "isinstance" = none
  b_len : mg "len" = none
  b_list : mg "list" = none
  b_min : mg "min" = none
  b_range : mg "range" = none
  b_zip : mg "zip" = none
  c_MOST_PRIME : ∃ t, mg "MOST_PRIME" = some (.int 65521 t)
section
variable {P : Program} {w : World} {K : PySem.W.Frag} {mg : Str → Option Value} {base : Heap}
/-- what the written part says of the errors' classes -/
structure ErX (K : PySem.W.Frag) (mg : Str → Option Value) : Prop where
  at_ : ∀ c cls, errTab.contains c = true → mg c = some cls → ∃ C, cls = .ref C ∧ ErA K C
  is_ : ∀ c cls, errTab.contains c = true → mg c = some cls → ∃ C, cls = .ref C ∧ ErI K C
  n_NoInverse : ∃ cv, mg "NoInverse" = some cv ∧ ∀ c cls, errTab.contains c = true → mg c = some cls → PySem.W.exmOne K cls cv = some (catches "NoInverse" c)
  i_Refused : ∃ cv, mg "Refused" = some (.ref cv) ∧ ∀ c C, errTab.contains c = true → mg c = some (.ref C) → PySem.W.kitOne K (.ref C) (.ref cv) = some (catches "Refused" c)
  i_ValueError : mg "ValueError" = none ∧ ∀ c C, errTab.contains c = true → mg c = some (.ref C) → PySem.W.kitOne K (.ref C) (.type "ValueError") = some (catches "ValueError" c)
theorem sc_is_whole : FnScope ["thing", "low", "high"] ["thing", "low", "high"] (defScope (topS 5)) := ⟨rfl, rfl, rfl, by decide +kernel, rfl, by decide +kernel, by decide +kernel⟩
theorem ok_is_whole {f : Addr} {fd : FuncData} (F : Fun K "is_whole" "is_whole" (topS 5) f fd) (T : Tx K mg) : FnOk P w K mg base (L2.CX P w) 1 f fd ["thing", "low", "high"] (spD K mg 3 den_is_whole) := by
  exact def_ok F sc_is_whole fun cdv A outer s H E G hr => mss_one (ms_ret (me_and (me_blt c_isi T.b_isinstance (ma_cons (me_use 0) (ma_cons (me_ty T.b_int (by decide +kernel)) (ma_nil)))) (me_and (me_not (me_blt c_isi T.b_isinstance (ma_cons (me_use 0) (ma_cons (me_ty T.b_bool (by decide +kernel)) (ma_nil))))) (me_one (me_chain op_pLe op_pLe (me_use 1) (me_use 0) (me_use 2))))))
theorem sc_is_prime : FnScope ["n", "divisor"] ["n"] (defScope (topS 6)) := ⟨rfl, rfl, rfl, by decide +kernel, rfl, by decide +kernel, by decide +kernel⟩
theorem ok_is_prime {f : Addr} {fd : FuncData} (F : Fun K "is_prime" "is_prime" (topS 6) f fd) (T : Tx K mg) (D_is_whole : Df P w K mg base 1 "is_whole" 3 den_is_whole) : FnOk P w K mg base (L2.CX P w) 2 f fd ["n"] (spD K mg 1 den_is_prime) := by
  obtain ⟨t_MOST_PRIME, c_MOST_PRIME⟩ := T.c_MOST_PRIME
  exact def_ok F sc_is_prime fun cdv A outer s H E G hr => mss_cons (ms_if (mt_not (mt_tru (me_call D_is_whole hr (takes_of (E := E) rfl rfl rfl rfl) (ma_cons (me_use 0) (ma_cons (me_int) (ma_cons (me_gint c_MOST_PRIME) (ma_nil))))))) (mss_one (ms_ret (me_bl))) (mss_nil)) (mss_cons (ms_set 1 sc_is_prime.nd (me_int)) (mss_cons (ms_while (passes_of rfl) (mt_cmp op_pLe (me_op op_pMul (me_use 1) (me_use 1)) (me_use 0) (nomark _)) (mss_cons (ms_if (mt_cmp (op_pEq hr) (me_op op_pMod (me_use 0) (me_use 1)) (me_int) (nomark _)) (mss_one (ms_ret (me_bl))) (mss_nil)) (mss_one (ms_set 1 sc_is_prime.nd (me_op op_pAdd (me_use 1) (me_int)))))) (mss_one (ms_ret (me_bl)))))
theorem sc_inverse : FnScope ["a", "p", "low", "high", "one", "other", "times"] ["a", "p"] (defScope (topS 7)) := ⟨rfl, rfl, rfl, by decide +kernel, rfl, by decide +kernel, by decide +kernel⟩
theorem ok_inverse {f : Addr} {fd : FuncData} (F : Fun K "inverse" "inverse" (topS 7) f fd) (T : Tx K mg) (E_NoInverse : ErC P w K mg base "NoInverse") : FnOk P w K mg base (L2.CX P w) 3 f fd ["a", "p"] (spD K mg 2 den_inverse) := by
  exact def_ok F sc_inverse fun cdv A outer s H E G hr => mss_cons (ms_par 2 3 sc_inverse.nd (ma_cons (me_op op_pMod (me_bty c_int T.b_int (ma_cons (me_use 0) (ma_nil))) (me_use 1)) (ma_cons (me_use 1) (ma_nil)))) (mss_cons (ms_if (mt_cmp (op_pEq hr) (me_use 2) (me_int) (nomark _)) (mss_one (ms_raise E_NoInverse hr (takes_of (E := E) rfl rfl rfl rfl) (me_use 0))) (mss_nil)) (mss_cons (ms_asg (me_tup (ma_cons (me_int) (ma_cons (me_int) (ma_nil)))) (mg_tup (mgs_cons (mg_name 4 sc_inverse.nd) (mgs_cons (mg_name 5 sc_inverse.nd) (mgs_nil))))) (mss_cons (ms_while (passes_of rfl) (mt_cmp op_pGt (me_use 2) (me_int) (nomark _)) (mss_cons (ms_set 6 sc_inverse.nd (me_op op_pDiv (me_use 3) (me_use 2))) (mss_cons (ms_par 2 3 sc_inverse.nd (ma_cons (me_op op_pSub (me_use 3) (me_op op_pMul (me_use 6) (me_use 2))) (ma_cons (me_use 2) (ma_nil)))) (mss_one (ms_par 4 5 sc_inverse.nd (ma_cons (me_op op_pSub (me_use 5) (me_op op_pMul (me_use 6) (me_use 4))) (ma_cons (me_use 4) (ma_nil)))))))) (mss_one (ms_ret (me_op op_pMod (me_bty c_int T.b_int (ma_cons (me_use 4) (ma_nil))) (me_use 1)))))))
theorem sc_choose : FnScope ["n", "j", "p", "row", "turn", "left", "right"] ["n", "j", "p"] (defScope (topS 8)) := ⟨rfl, rfl, rfl, by decide +kernel, rfl, by decide +kernel, by decide +kernel⟩
theorem ok_choose {f : Addr} {fd : FuncData} (F : Fun K "choose" "choose" (topS 8) f fd) (T : Tx K mg) : FnOk P w K mg base (L2.CX P w) 1 f fd ["n", "j", "p"] (spD K mg 3 den_choose) := by
  exact def_ok F sc_choose fun cdv A outer s H E G hr => mss_cons (ms_if (mt_cmp op_pGt (me_use 1) (me_use 0) (nomark _)) (mss_one (ms_ret (me_int))) (mss_nil)) (mss_cons (ms_set 3 sc_choose.nd (me_frz (mf_disp (ma_cons (me_int) (ma_nil))))) (mss_cons (ms_for (passes_of rfl) (mi_range1 T.b_range (ma_cons (me_use 0) (ma_nil))) (mg_name 4 sc_choose.nd) (mss_one (ms_set 3 sc_choose.nd (me_op op_pAdd (me_op op_pAdd (me_frz (mf_disp (ma_cons (me_int) (ma_nil)))) (me_frz (mf_comp (N := ["n", "j", "p", "row", "turn", "left", "right"]) (sc := defScope (topS 8)) [("left", 5), ("right", 6)] sc_choose.nd (mi_zip T.b_zip (ma_cons (me_use 3) (ma_cons (me_cut (me_use 3) (mo_some (me_int)) (mo_none)) (ma_nil)))) (by decide +kernel) (fun _ _ _ _ _ => mgc_tup (mgcs_cons (mgc_name 5 sc_choose.nd) (mgcs_cons (mgc_name 6 sc_choose.nd) (mgcs_nil)))) (fun _ _ _ _ _ => mts_nil) (fun _ _ _ _ _ _ => me_op op_pMod (me_op op_pAdd (me_use 5) (me_use 6)) (me_use 2))))) (me_frz (mf_disp (ma_cons (me_int) (ma_nil)))))))) (mss_one (ms_ret (me_op op_pMod (me_bty c_int T.b_int (ma_cons (me_ix (me_use 3) (me_use 1)) (ma_nil))) (me_use 2))))))
theorem sc__law_pool : FnScope ["_law_script", "_law_first", "_law_size"] ["_law_script"] (defScope (topS 10)) := ⟨rfl, rfl, rfl, by decide +kernel, rfl, by decide +kernel, by decide +kernel⟩
theorem ok__law_pool {f : Addr} {fd : FuncData} (F : Fun K "_law_pool" "_law_pool" (topS 10) f fd) (T : Tx K mg) : FnOk P w K mg base (L2.CX P w) 1 f fd ["_law_script"] (spD K mg 1 den__law_pool) := by
  exact def_ok F sc__law_pool fun cdv A outer s H E G hr => mss_cons (ms_set 1 sc__law_pool.nd (me_if (mt_cmp op_pGt (me_blt c_len T.b_len (ma_cons (me_use 0) (ma_nil))) (me_int) (nomark _)) (me_bty c_int T.b_int (ma_cons (me_ix (me_use 0) (me_int)) (ma_nil))) (me_int))) (mss_cons (ms_set 2 sc__law_pool.nd (me_if (mt_cmp op_pGe (me_use 1) (me_int) (nomark _)) (me_op op_pMul (me_int) (me_use 1)) (me_op op_pSub (me_neg (me_int)) (me_op op_pMul (me_int) (me_use 1))))) (mss_one (ms_ret (me_new (mf_disp (ma_cons (me_if (mt_cmp op_pGe (me_use 2) (me_op op_pPow (me_int) (me_int)) (nomark _)) (me_use 2) (me_int)) (ma_cons (me_op op_pAdd (me_op op_pMod (me_bty c_int T.b_int (ma_cons (me_op op_pAdd (me_op op_pMul (me_use 2) (me_int)) (me_int)) (ma_nil))) (me_int)) (me_int)) (ma_cons (me_new (mf_list (me_cut (me_use 0) (mo_some (me_int)) (mo_none)) T.b_list)) (ma_nil)))))))))
theorem sc__law_draw : FnScope ["_law_pool_here", "_law_many", "_law_cell", "_law_size", "_law_found"] ["_law_pool_here", "_law_many"] (defScope (topS 11)) := ⟨rfl, rfl, rfl, by decide +kernel, rfl, by decide +kernel, by decide +kernel⟩
theorem ok__law_draw {f : Addr} {fd : FuncData} (F : Fun K "_law_draw" "_law_draw" (topS 11) f fd) (T : Tx K mg) : FnOk P w K mg base (L2.CX P w) 1 f fd ["_law_pool_here", "_law_many"] (spD K mg 2 den__law_draw) := by
  exact def_ok F sc__law_draw fun cdv A outer s H E G hr => mss_cons (ms_if (mt_w (mw_and (mt_cmp (op_pEq hr) (me_ix (me_use 0) (me_int)) (me_int) (nomark _)) (mw_and1 (mt_cmp (op_pNe hr) (me_ix (me_use 0) (me_int)) (me_frz (mf_disp (ma_nil))) (nomark _))))) (mss_cons (ms_set 2 sc__law_draw.nd (me_bty c_int T.b_int (ma_cons (me_mthR (slot := PySem.F.slot_list_pop) m_popAt PySem.F.type_list_pop (me_ix (me_use 0) (me_int)) (ma_cons (me_int) (ma_nil))) (ma_nil)))) (mss_cons (ms_set 3 sc__law_draw.nd (me_if (mt_cmp op_pGe (me_use 2) (me_int) (nomark _)) (me_op op_pMul (me_int) (me_use 2)) (me_op op_pSub (me_neg (me_int)) (me_op op_pMul (me_int) (me_use 2))))) (mss_cons (ms_setR (me_if (mt_cmp op_pGe (me_use 3) (me_op op_pPow (me_int) (me_int)) (nomark _)) (me_use 3) (me_int)) (me_use 0) (me_int)) (mss_one (ms_setR (me_op op_pAdd (me_op op_pMod (me_bty c_int T.b_int (ma_cons (me_op op_pAdd (me_ix (me_use 0) (me_int)) (me_op op_pMul (me_use 3) (me_int))) (ma_nil))) (me_int)) (me_int)) (me_use 0) (me_int)))))) (mss_nil)) (mss_cons (ms_if (mt_cmp op_pGt (me_ix (me_use 0) (me_int)) (me_int) (nomark _)) (mss_cons (ms_set 4 sc__law_draw.nd (me_op op_pMod (me_bty c_int T.b_int (ma_cons (me_ix (me_use 0) (me_int)) (ma_nil))) (me_use 1))) (mss_cons (ms_setR (me_op op_pDiv (me_ix (me_use 0) (me_int)) (me_use 1)) (me_use 0) (me_int)) (mss_one (ms_ret (me_use 4))))) (mss_nil)) (mss_cons (ms_setR (me_op op_pMod (me_bty c_int T.b_int (ma_cons (me_op op_pAdd (me_op op_pMul (me_ix (me_use 0) (me_int)) (me_int)) (me_int)) (ma_nil))) (me_int)) (me_use 0) (me_int)) (mss_one (ms_ret (me_op op_pMod (me_op op_pDiv (me_op op_pMod (me_bty c_int T.b_int (ma_cons (me_op op_pMul (me_ix (me_use 0) (me_int)) (me_ix (me_use 0) (me_int))) (ma_nil))) (me_int)) (me_int)) (me_use 1))))))
theorem sc__law_pick : FnScope ["_law_pool_here", "_law_things"] ["_law_pool_here", "_law_things"] (defScope (topS 12)) := ⟨rfl, rfl, rfl, by decide +kernel, rfl, by decide +kernel, by decide +kernel⟩
theorem ok__law_pick {f : Addr} {fd : FuncData} (F : Fun K "_law_pick" "_law_pick" (topS 12) f fd) (T : Tx K mg) (D__law_draw : Df P w K mg base 1 "_law_draw" 2 den__law_draw) : FnOk P w K mg base (L2.CX P w) 2 f fd ["_law_pool_here", "_law_things"] (spD K mg 2 den__law_pick) := by
  exact def_ok F sc__law_pick fun cdv A outer s H E G hr => mss_one (ms_ret (me_ix (me_use 1) (me_call D__law_draw hr (takes_of (E := E) rfl rfl rfl rfl) (ma_cons (me_use 0) (ma_cons (me_blt c_len T.b_len (ma_cons (me_use 1) (ma_nil))) (ma_nil))))))
theorem sc__law_is_whole : FnScope ["_law_thing"] ["_law_thing"] (defScope (topS 13)) := ⟨rfl, rfl, rfl, by decide +kernel, rfl, by decide +kernel, by decide +kernel⟩
theorem ok__law_is_whole {f : Addr} {fd : FuncData} (F : Fun K "_law_is_whole" "_law_is_whole" (topS 13) f fd) (T : Tx K mg) : FnOk P w K mg base (L2.CX P w) 1 f fd ["_law_thing"] (spD K mg 1 den__law_is_whole) := by
  exact def_ok F sc__law_is_whole fun cdv A outer s H E G hr => mss_one (ms_ret (me_and (me_blt c_isi T.b_isinstance (ma_cons (me_use 0) (ma_cons (me_ty T.b_int (by decide +kernel)) (ma_nil)))) (me_one (me_not (me_blt c_isi T.b_isinstance (ma_cons (me_use 0) (ma_cons (me_ty T.b_bool (by decide +kernel)) (ma_nil))))))))
theorem sc__law_is_prime : FnScope ["_law_n", "_law_divisor"] ["_law_n"] (defScope (topS 14)) := ⟨rfl, rfl, rfl, by decide +kernel, rfl, by decide +kernel, by decide +kernel⟩
theorem ok__law_is_prime {f : Addr} {fd : FuncData} (F : Fun K "_law_is_prime" "_law_is_prime" (topS 14) f fd) (T : Tx K mg) (D__law_is_whole : Df P w K mg base 1 "_law_is_whole" 1 den__law_is_whole) : FnOk P w K mg base (L2.CX P w) 2 f fd ["_law_n"] (spD K mg 1 den__law_is_prime) := by
  exact def_ok F sc__law_is_prime fun cdv A outer s H E G hr => mss_cons (ms_if (mt_w (mw_or (mt_not (mt_tru (me_call D__law_is_whole hr (takes_of (E := E) rfl rfl rfl rfl) (ma_cons (me_use 0) (ma_nil))))) (mw_or1 (mt_not (mt_chain op_pLe op_pLe (me_int) (me_use 0) (me_int)))))) (mss_one (ms_ret (me_bl))) (mss_nil)) (mss_cons (ms_for (passes_of rfl) (mi_range2 T.b_range (ma_cons (me_int) (ma_cons (me_int) (ma_nil)))) (mg_name 1 sc__law_is_prime.nd) (mss_cons (ms_if (mt_cmp op_pGt (me_op op_pMul (me_use 1) (me_use 1)) (me_use 0) (nomark _)) (mss_one (ms_ret (me_bl))) (mss_nil)) (mss_one (ms_if (mt_cmp (op_pEq hr) (me_op op_pSub (me_use 0) (me_op op_pMul (me_op op_pDiv (me_use 0) (me_use 1)) (me_use 1))) (me_int) (nomark _)) (mss_one (ms_ret (me_bl))) (mss_nil))))) (mss_one (ms_ret (me_bl))))
theorem sc__law_primes_right : FnScope ["_law_pool_here", "_law_prime", "_law_things", "_law_thing", "_law_told"] ["_law_pool_here"] (defScope (topS 15)) := ⟨rfl, rfl, rfl, by decide +kernel, rfl, by decide +kernel, by decide +kernel⟩
theorem ok__law_primes_right {f : Addr} {fd : FuncData} (F : Fun K "_law_primes_right" "_law_primes_right" (topS 15) f fd) (T : Tx K mg) (D__law_pick : Df P w K mg base 2 "_law_pick" 2 den__law_pick) (D__law_draw : Df P w K mg base 1 "_law_draw" 2 den__law_draw) (D_is_prime : Df P w K mg base 2 "is_prime" 1 den_is_prime) (D__law_is_prime : Df P w K mg base 2 "_law_is_prime" 1 den__law_is_prime) : FnOk P w K mg base (L2.CX P w) 3 f fd ["_law_pool_here"] (spD K mg 1 den__law_primes_right) := by
  exact def_ok F sc__law_primes_right fun cdv A outer s H E G hr => mss_cons (ms_set 1 sc__law_primes_right.nd (me_call D__law_pick hr (takes_of (E := E) rfl rfl rfl rfl) (ma_cons (me_use 0) (ma_cons (me_frz (mf_disp (ma_cons (me_int) (ma_cons (me_int) (ma_cons (me_int) (ma_cons (me_int) (ma_cons (me_int) (ma_cons (me_int) (ma_cons (me_int) (ma_cons (me_int) (ma_nil))))))))))) (ma_nil))))) (mss_cons (ms_set 2 sc__law_primes_right.nd (me_frz (mf_disp (ma_cons (me_use 1) (ma_cons (me_op op_pMul (me_use 1) (me_use 1)) (ma_cons (me_op op_pAdd (me_use 1) (me_int)) (ma_cons (me_op op_pSub (me_call D__law_draw hr (takes_of (E := E) rfl rfl rfl rfl) (ma_cons (me_use 0) (ma_cons (me_int) (ma_nil)))) (me_int)) (ma_cons (me_int) (ma_cons (me_int) (ma_cons (me_int) (ma_cons (me_call D__law_draw hr (takes_of (E := E) rfl rfl rfl rfl) (ma_cons (me_use 0) (ma_cons (me_int) (ma_nil)))) (ma_nil)))))))))))) (mss_cons (ms_set 2 sc__law_primes_right.nd (me_op op_pAdd (me_use 2) (me_frz (mf_disp (ma_cons (me_call D__law_pick hr (takes_of (E := E) rfl rfl rfl rfl) (ma_cons (me_use 0) (ma_cons (me_frz (mf_disp (ma_cons (me_bl) (ma_cons (me_bl) (ma_cons (me_non) (ma_cons (me_str) (ma_cons (me_tup (ma_cons (me_int) (ma_nil))) (ma_cons (me_tup (ma_nil)) (ma_cons (me_op op_pAdd (me_op op_pPow (me_int) (me_int)) (me_int)) (ma_cons (me_int) (ma_cons (me_int) (ma_cons (me_neg (me_int)) (ma_nil))))))))))))) (ma_nil)))) (ma_nil)))))) (mss_cons (ms_for (passes_of rfl) (mi_val (me_use 2)) (mg_name 3 sc__law_primes_right.nd) (mss_cons (ms_set 4 sc__law_primes_right.nd (me_call D_is_prime hr (takes_of (E := E) rfl rfl rfl rfl) (ma_cons (me_use 3) (ma_nil)))) (mss_one (ms_if (mt_w (mw_or (mt_not (mt_tru (me_blt c_isi T.b_isinstance (ma_cons (me_use 4) (ma_cons (me_ty T.b_bool (by decide +kernel)) (ma_nil)))))) (mw_or1 (mt_cmp (op_pNe hr) (me_use 4) (me_call D__law_is_prime hr (takes_of (E := E) rfl rfl rfl rfl) (ma_cons (me_use 3) (ma_nil))) (nomark _))))) (mss_one (ms_ret (me_bl))) (mss_nil))))) (mss_one (ms_ret (me_bl))))))
theorem sc__law_inverted : FnScope ["_law_a", "_law_p", "e"] ["_law_a", "_law_p"] (defScope (topS 16)) := ⟨rfl, rfl, rfl, by decide +kernel, rfl, by decide +kernel, by decide +kernel⟩
theorem ok__law_inverted {f : Addr} {fd : FuncData} (F : Fun K "_law_inverted" "_law_inverted" (topS 16) f fd) (T : Tx K mg) (D_inverse : Df P w K mg base 3 "inverse" 2 den_inverse) (EX : ErX K mg) : FnOk P w K mg base (L2.CX P w) 4 f fd ["_law_a", "_law_p"] (spD K mg 2 den__law_inverted) := by
  obtain ⟨v_NoInverse, m_NoInverse, X_NoInverse⟩ := EX.n_NoInverse
  exact def_ok F sc__law_inverted fun cdv A outer s H E G hr => mss_one (ms_try sc__law_inverted.nd (takes_of (E := E) rfl rfl rfl rfl) (fun W pn xe tk hp => mss_one (ms_ret (me_tup (ma_cons (me_call D_inverse hr tk (ma_cons (me_use 0) (ma_cons (me_use 1) (ma_nil)))) (ma_nil))))) (HsOk.named ⟨rfl, by decide, .inl m_NoInverse⟩ rfl rfl X_NoInverse (fun a oe cls b pn c hz hv hm ht => mss_one (ms_ret (me_if (mt_w (mw_and (mt_tru ((by obtain ⟨C, rfl, TI⟩ := EX.is_ c cls ht hm; obtain ⟨cv, mc, kk⟩ := EX.i_Refused; exact me_isE _ TI hz hv (pe_glob (v := .ref cv) (by rfl) mc rfl) (fun u r => r) (kk c C ht hm) T.b_isinstance))) (mw_and1 (mt_tru ((by obtain ⟨C, rfl, TI⟩ := EX.is_ c cls ht hm; exact me_isE _ TI hz hv (pe_bltn (v := .ty "ValueError") (by rfl) EX.i_ValueError.1 (by decide +kernel) rfl) (fun u r => r) (EX.i_ValueError.2 c C ht hm) T.b_isinstance)))))) (me_tup (ma_cons (me_str) (ma_cons ((by obtain ⟨C, rfl, TA⟩ := EX.at_ c cls ht hm; exact me_what _ TA hz hv)) (ma_nil)))) (me_tup (ma_cons (me_str) (ma_cons (me_int) (ma_nil))))))) (HsOk.nil)))
theorem sc__law_inverse_right : FnScope ["_law_a", "_law_p", "_law_told"] ["_law_a", "_law_p"] (defScope (topS 17)) := ⟨rfl, rfl, rfl, by decide +kernel, rfl, by decide +kernel, by decide +kernel⟩
theorem ok__law_inverse_right {f : Addr} {fd : FuncData} (F : Fun K "_law_inverse_right" "_law_inverse_right" (topS 17) f fd) (T : Tx K mg) (D__law_inverted : Df P w K mg base 4 "_law_inverted" 2 den__law_inverted) (D__law_is_whole : Df P w K mg base 1 "_law_is_whole" 1 den__law_is_whole) : FnOk P w K mg base (L2.CX P w) 5 f fd ["_law_a", "_law_p"] (spD K mg 2 den__law_inverse_right) := by
  exact def_ok F sc__law_inverse_right fun cdv A outer s H E G hr => mss_cons (ms_set 2 sc__law_inverse_right.nd (me_call D__law_inverted hr (takes_of (E := E) rfl rfl rfl rfl) (ma_cons (me_use 0) (ma_cons (me_use 1) (ma_nil))))) (mss_cons (ms_if (mt_cmp (op_pEq hr) (me_op op_pSub (me_use 0) (me_op op_pMul (me_op op_pDiv (me_use 0) (me_use 1)) (me_use 1))) (me_int) (nomark _)) (mss_one (ms_ret (me_cmp (op_pEq hr) (me_use 2) (me_tup (ma_cons (me_str) (ma_cons (me_use 0) (ma_nil)))) (nomark _)))) (mss_nil)) (mss_cons (ms_if (mt_w (mw_or (mt_cmp (op_pNe hr) (me_blt c_len T.b_len (ma_cons (me_use 2) (ma_nil))) (me_int) (nomark _)) (mw_or (mt_not (mt_tru (me_call D__law_is_whole hr (takes_of (E := E) rfl rfl rfl rfl) (ma_cons (me_ix (me_use 2) (me_int)) (ma_nil))))) (mw_or1 (mt_not (mt_chain op_pLe op_pLt (me_int) (me_ix (me_use 2) (me_int)) (me_use 1))))))) (mss_one (ms_ret (me_bl))) (mss_nil)) (mss_one (ms_ret (me_cmp (op_pEq hr) (me_op op_pMod (me_bty c_int T.b_int (ma_cons (me_op op_pSub (me_op op_pMul (me_ix (me_use 2) (me_int)) (me_use 0)) (me_int)) (ma_nil))) (me_use 1)) (me_int) (nomark _))))))
theorem sc__law_ways : FnScope ["_law_n", "_law_j", "_law_found", "_law_at"] ["_law_n", "_law_j"] (defScope (topS 18)) := ⟨rfl, rfl, rfl, by decide +kernel, rfl, by decide +kernel, by decide +kernel⟩
theorem ok__law_ways {f : Addr} {fd : FuncData} (F : Fun K "_law_ways" "_law_ways" (topS 18) f fd) (T : Tx K mg) : FnOk P w K mg base (L2.CX P w) 1 f fd ["_law_n", "_law_j"] (spD K mg 2 den__law_ways) := by
  exact def_ok F sc__law_ways fun cdv A outer s H E G hr => mss_cons (ms_set 2 sc__law_ways.nd (me_int)) (mss_cons (ms_for (passes_of rfl) (mi_range1 T.b_range (ma_cons (me_blt c_min T.b_min (ma_cons (me_use 1) (ma_cons (me_use 0) (ma_nil)))) (ma_nil))) (mg_name 3 sc__law_ways.nd) (mss_one (ms_set 2 sc__law_ways.nd (me_op op_pDiv (me_op op_pMul (me_use 2) (me_op op_pSub (me_use 0) (me_use 3))) (me_op op_pAdd (me_use 3) (me_int)))))) (mss_one (ms_ret (me_if (mt_cmp op_pLe (me_use 1) (me_use 0) (nomark _)) (me_use 2) (me_int)))))
theorem sc_law : FnScope ["_law_script", "_law_pool_here", "_law_p", "_law_a", "_law_turn", "_law_n", "_law_j", "_law_told"] ["_law_script"] (defScope (topS 19)) := ⟨rfl, rfl, rfl, by decide +kernel, rfl, by decide +kernel, by decide +kernel⟩
theorem ok_law {f : Addr} {fd : FuncData} (F : Fun K "law" "law" (topS 19) f fd) (T : Tx K mg) (D__law_pool : Df P w K mg base 1 "_law_pool" 1 den__law_pool) (D__law_primes_right : Df P w K mg base 3 "_law_primes_right" 1 den__law_primes_right) (D__law_pick : Df P w K mg base 2 "_law_pick" 2 den__law_pick) (D__law_draw : Df P w K mg base 1 "_law_draw" 2 den__law_draw) (D__law_inverse_right : Df P w K mg base 5 "_law_inverse_right" 2 den__law_inverse_right) (D_choose : Df P w K mg base 1 "choose" 3 den_choose) (D__law_is_whole : Df P w K mg base 1 "_law_is_whole" 1 den__law_is_whole) (D__law_ways : Df P w K mg base 1 "_law_ways" 2 den__law_ways) : FnOk P w K mg base (L2.CX P w) 6 f fd ["_law_script"] (spD K mg 1 den_law) := by
  exact def_ok F sc_law fun cdv A outer s H E G hr => mss_cons (ms_set 1 sc_law.nd (me_call D__law_pool hr (takes_of (E := E) rfl rfl rfl rfl) (ma_cons (me_use 0) (ma_nil)))) (mss_cons (ms_if (mt_not (mt_tru (me_call D__law_primes_right hr (takes_of (E := E) rfl rfl rfl rfl) (ma_cons (me_use 1) (ma_nil))))) (mss_one (ms_ret (me_bl))) (mss_nil)) (mss_cons (ms_set 2 sc_law.nd (me_call D__law_pick hr (takes_of (E := E) rfl rfl rfl rfl) (ma_cons (me_use 1) (ma_cons (me_frz (mf_disp (ma_cons (me_int) (ma_cons (me_int) (ma_cons (me_int) (ma_cons (me_int) (ma_cons (me_int) (ma_cons (me_int) (ma_cons (me_int) (ma_cons (me_int) (ma_cons (me_int) (ma_nil)))))))))))) (ma_nil))))) (mss_cons (ms_for (passes_of rfl) (mi_val (me_frz (mf_disp (ma_cons (me_int) (ma_cons (me_op op_pSub (me_use 2) (me_int)) (ma_cons (me_op op_pSub (me_int) (me_op op_pMul (me_use 2) (me_call D__law_draw hr (takes_of (E := E) rfl rfl rfl rfl) (ma_cons (me_use 1) (ma_cons (me_int) (ma_nil)))))) (ma_cons (me_op op_pSub (me_int) (me_op op_pMul (me_use 2) (me_call D__law_draw hr (takes_of (E := E) rfl rfl rfl rfl) (ma_cons (me_use 1) (ma_cons (me_int) (ma_nil)))))) (ma_cons (me_op op_pSub (me_call D__law_draw hr (takes_of (E := E) rfl rfl rfl rfl) (ma_cons (me_use 1) (ma_cons (me_op op_pPow (me_int) (me_int)) (ma_nil)))) (me_op op_pPow (me_int) (me_int))) (ma_nil))))))))) (mg_name 3 sc_law.nd) (mss_one (ms_if (mt_not (mt_tru (me_call D__law_inverse_right hr (takes_of (E := E) rfl rfl rfl rfl) (ma_cons (me_use 3) (ma_cons (me_use 2) (ma_nil)))))) (mss_one (ms_ret (me_bl))) (mss_nil)))) (mss_cons (ms_for (passes_of rfl) (mi_range1 T.b_range (ma_cons (me_int) (ma_nil))) (mg_name 4 sc_law.nd) (mss_cons (ms_set 5 sc_law.nd (me_call D__law_pick hr (takes_of (E := E) rfl rfl rfl rfl) (ma_cons (me_use 1) (ma_cons (me_frz (mf_disp (ma_cons (me_int) (ma_cons (me_int) (ma_cons (me_use 2) (ma_cons (me_call D__law_draw hr (takes_of (E := E) rfl rfl rfl rfl) (ma_cons (me_use 1) (ma_cons (me_int) (ma_nil)))) (ma_cons (me_call D__law_draw hr (takes_of (E := E) rfl rfl rfl rfl) (ma_cons (me_use 1) (ma_cons (me_int) (ma_nil)))) (ma_cons (me_call D__law_draw hr (takes_of (E := E) rfl rfl rfl rfl) (ma_cons (me_use 1) (ma_cons (me_int) (ma_nil)))) (ma_nil))))))))) (ma_nil))))) (mss_cons (ms_set 5 sc_law.nd (me_if (mt_cmp op_pLt (me_use 5) (me_int) (nomark _)) (me_use 5) (me_int))) (mss_cons (ms_set 6 sc_law.nd (me_call D__law_pick hr (takes_of (E := E) rfl rfl rfl rfl) (ma_cons (me_use 1) (ma_cons (me_frz (mf_disp (ma_cons (me_int) (ma_cons (me_int) (ma_cons (me_use 5) (ma_cons (me_op op_pAdd (me_use 5) (me_int)) (ma_cons (me_op op_pDiv (me_use 5) (me_int)) (ma_cons (me_call D__law_draw hr (takes_of (E := E) rfl rfl rfl rfl) (ma_cons (me_use 1) (ma_cons (me_op op_pAdd (me_use 5) (me_int)) (ma_nil)))) (ma_nil))))))))) (ma_nil))))) (mss_cons (ms_set 7 sc_law.nd (me_call D_choose hr (takes_of (E := E) rfl rfl rfl rfl) (ma_cons (me_use 5) (ma_cons (me_use 6) (ma_cons (me_use 2) (ma_nil)))))) (mss_one (ms_if (mt_w (mw_or (mt_not (mt_tru (me_call D__law_is_whole hr (takes_of (E := E) rfl rfl rfl rfl) (ma_cons (me_use 7) (ma_nil))))) (mw_or1 (mt_cmp (op_pNe hr) (me_use 7) (me_op op_pSub (me_call D__law_ways hr (takes_of (E := E) rfl rfl rfl rfl) (ma_cons (me_use 5) (ma_cons (me_use 6) (ma_nil)))) (me_op op_pMul (me_op op_pDiv (me_call D__law_ways hr (takes_of (E := E) rfl rfl rfl rfl) (ma_cons (me_use 5) (ma_cons (me_use 6) (ma_nil)))) (me_use 2)) (me_use 2))) (nomark _))))) (mss_one (ms_ret (me_bl))) (mss_nil)))))))) (mss_one (ms_ret (me_bl)))))))
end
end FS

set_option Elab.async false
set_option linter.all false
set_option maxRecDepth 100000
/-! K01End: the end of law_k01_primes_and_inverses (printed by our gen.py) -/
namespace FSEnd
open PySem PySem.Spec PyProof.Rows L2 FS
theorem all_mk {P : Program} {w : World} {K : PySem.W.Frag} {h : Heap} {mg : Str → Option Value} {fa : Addr} (X : K.In h) (G : h.Ns mainGlobals mg) (hfa : mg "law" = some (.ref fa))
    {fI : Addr} {odI anI : Option Addr} {slI : Array (Option Value)} {ocI kVI dcI pmI cdI ctI : Value}
    {C_NoInverse : Addr} {nm_NoInverse q_NoInverse : Str} {N_NoInverse : Addr} {bs_NoInverse bm_NoInverse : List Value} {sn_NoInverse : List Str} {sub_NoInverse : List Value} {ab_NoInverse : Bool} {col_NoInverse : Option Bool} {dd_NoInverse : Option Addr} {m0_NoInverse m1_NoInverse m2_NoInverse m3_NoInverse m5_NoInverse : Option Value}
    {C_Refused : Addr} {nm_Refused q_Refused : Str} {N_Refused : Addr} {bs_Refused bm_Refused : List Value} {sn_Refused : List Str} {sub_Refused : List Value} {ab_Refused : Bool} {col_Refused : Option Bool} {dd_Refused : Option Addr} {m0_Refused m1_Refused m2_Refused m3_Refused m5_Refused : Option Value}
    {f_is_whole : Addr} {od_is_whole an_is_whole : Option Addr} {sl_is_whole : Array (Option Value)} {oc_is_whole kV_is_whole dc_is_whole pm_is_whole cd_is_whole ct_is_whole : Value}
    {f_is_prime : Addr} {od_is_prime an_is_prime : Option Addr} {sl_is_prime : Array (Option Value)} {oc_is_prime kV_is_prime dc_is_prime pm_is_prime cd_is_prime ct_is_prime : Value}
    {f_inverse : Addr} {od_inverse an_inverse : Option Addr} {sl_inverse : Array (Option Value)} {oc_inverse kV_inverse dc_inverse pm_inverse cd_inverse ct_inverse : Value}
    {f_choose : Addr} {od_choose an_choose : Option Addr} {sl_choose : Array (Option Value)} {oc_choose kV_choose dc_choose pm_choose cd_choose ct_choose : Value}
    {f__law_pool : Addr} {od__law_pool an__law_pool : Option Addr} {sl__law_pool : Array (Option Value)} {oc__law_pool kV__law_pool dc__law_pool pm__law_pool cd__law_pool ct__law_pool : Value}
    {f__law_draw : Addr} {od__law_draw an__law_draw : Option Addr} {sl__law_draw : Array (Option Value)} {oc__law_draw kV__law_draw dc__law_draw pm__law_draw cd__law_draw ct__law_draw : Value}
    {f__law_pick : Addr} {od__law_pick an__law_pick : Option Addr} {sl__law_pick : Array (Option Value)} {oc__law_pick kV__law_pick dc__law_pick pm__law_pick cd__law_pick ct__law_pick : Value}
    {f__law_is_whole : Addr} {od__law_is_whole an__law_is_whole : Option Addr} {sl__law_is_whole : Array (Option Value)} {oc__law_is_whole kV__law_is_whole dc__law_is_whole pm__law_is_whole cd__law_is_whole ct__law_is_whole : Value}
    {f__law_is_prime : Addr} {od__law_is_prime an__law_is_prime : Option Addr} {sl__law_is_prime : Array (Option Value)} {oc__law_is_prime kV__law_is_prime dc__law_is_prime pm__law_is_prime cd__law_is_prime ct__law_is_prime : Value}
    {f__law_primes_right : Addr} {od__law_primes_right an__law_primes_right : Option Addr} {sl__law_primes_right : Array (Option Value)} {oc__law_primes_right kV__law_primes_right dc__law_primes_right pm__law_primes_right cd__law_primes_right ct__law_primes_right : Value}
    {f__law_inverted : Addr} {od__law_inverted an__law_inverted : Option Addr} {sl__law_inverted : Array (Option Value)} {oc__law_inverted kV__law_inverted dc__law_inverted pm__law_inverted cd__law_inverted ct__law_inverted : Value}
    {f__law_inverse_right : Addr} {od__law_inverse_right an__law_inverse_right : Option Addr} {sl__law_inverse_right : Array (Option Value)} {oc__law_inverse_right kV__law_inverse_right dc__law_inverse_right pm__law_inverse_right cd__law_inverse_right ct__law_inverse_right : Value}
    {f__law_ways : Addr} {od__law_ways an__law_ways : Option Addr} {sl__law_ways : Array (Option Value)} {oc__law_ways kV__law_ways dc__law_ways pm__law_ways cd__law_ways ct__law_ways : Value}
    {f_law : Addr} {od_law an_law : Option Addr} {sl_law : Array (Option Value)} {oc_law kV_law dc_law pm_law cd_law ct_law : Value}
    {tk_MOST_PRIME : Tok}
    (aC_NoInverse : PySem.W.nsIn K mainGlobals "NoInverse" = some (some (.ref C_NoInverse)))
    (lC_NoInverse : K.lookup C_NoInverse = some (excClassObj nm_NoInverse q_NoInverse C_NoInverse N_NoInverse bs_NoInverse bm_NoInverse true sn_NoInverse sub_NoInverse ab_NoInverse col_NoInverse dd_NoInverse m0_NoInverse m1_NoInverse m2_NoInverse m3_NoInverse m5_NoInverse "ValueError.__new__"))
    (rC_NoInverse : PySem.HandSPX.refsVE bm_NoInverse = true)
    (sa_NoInverse : PySem.W.findIn K (.ref C_NoInverse) "__setattr__" = some (some (.builtin "object.__setattr__")))
    (ga_NoInverse : PySem.W.findIn K (.ref C_NoInverse) "__getattribute__" = some (some (.builtin "BaseException.__getattribute__")))
    (gg_NoInverse : PySem.W.findIn K (.ref C_NoInverse) "__getattr__" = some none)
    (nw_NoInverse : PySem.W.findIn K (.ref C_NoInverse) "what" = some none)
    (kC_NoInverse : PySem.W.keepIn K (.ref C_NoInverse) = true)
    (eC_NoInverse : PySem.W.subIn K (.ref C_NoInverse) (.type "BaseException") = some true)
    (tC_NoInverse : PySem.W.typeIn K (.ref C_NoInverse) = some (.type "type"))
    (hC_NoInverse : PySem.W.hasDictIn K C_NoInverse = true)
    (iC_NoInverse : PySem.W.findIn K (.ref C_NoInverse) "__init__" = some (some (.ref fI)))
    (ha_NoInverse : PySem.W.findIn K (.ref C_NoInverse) "__class__" = some (some (.builtin "object.__class__")))
    (hm_NoInverse : PySem.W.mroIn K C_NoInverse (.type "object") = some true)
    (aC_Refused : PySem.W.nsIn K mainGlobals "Refused" = some (some (.ref C_Refused)))
    (lC_Refused : K.lookup C_Refused = some (excClassObj nm_Refused q_Refused C_Refused N_Refused bs_Refused bm_Refused true sn_Refused sub_Refused ab_Refused col_Refused dd_Refused m0_Refused m1_Refused m2_Refused m3_Refused m5_Refused "ValueError.__new__"))
    (rC_Refused : PySem.HandSPX.refsVE bm_Refused = true)
    (sa_Refused : PySem.W.findIn K (.ref C_Refused) "__setattr__" = some (some (.builtin "object.__setattr__")))
    (ga_Refused : PySem.W.findIn K (.ref C_Refused) "__getattribute__" = some (some (.builtin "BaseException.__getattribute__")))
    (gg_Refused : PySem.W.findIn K (.ref C_Refused) "__getattr__" = some none)
    (nw_Refused : PySem.W.findIn K (.ref C_Refused) "what" = some none)
    (kC_Refused : PySem.W.keepIn K (.ref C_Refused) = true)
    (eC_Refused : PySem.W.subIn K (.ref C_Refused) (.type "BaseException") = some true)
    (tC_Refused : PySem.W.typeIn K (.ref C_Refused) = some (.type "type"))
    (hC_Refused : PySem.W.hasDictIn K C_Refused = true)
    (hn : PySem.W.specialIn K (.builtin "object.__class__") "__get__" = some (some (.builtin "getset_descriptor.__get__")))
    (ht : PySem.W.takesIn K (.builtin "object.__class__") = some true)
    (tI : PySem.W.typeIn K (.ref fI) = some (.type "function"))
    (lI : K.lookup fI = some ⟨ocI, odI, .func (PySem.W.fnOf "__init__" "Refused.__init__" (defArgs (inClass (topS 1) 0)) (defBody (inClass (topS 1) 0)) (defScope (inClass (topS 1) 0)) .none kVI dcI pmI anI cdI ctI), slI⟩)
    (cI : PySem.W.codeIn K cdI "Refused.__init__" = true)
    (kI : PySem.W.keepIn K (.ref fI) = true)
    (x_NoInverse_NoInverse : PySem.W.subIn K (.ref C_NoInverse) (.ref C_NoInverse) = some true)
    (y_Refused_NoInverse : PySem.W.kitOne K (.ref C_NoInverse) (.ref C_Refused) = some true)
    (y_ValueError_NoInverse : PySem.W.kitOne K (.ref C_NoInverse) (.type "ValueError") = some true)
    (a_is_whole : PySem.W.nsIn K mainGlobals "is_whole" = some (some (.ref f_is_whole)))
    (l_is_whole : K.lookup f_is_whole = some ⟨oc_is_whole, od_is_whole, .func (PySem.W.fnOf "is_whole" "is_whole" (defArgs (topS 5)) (defBody (topS 5)) (defScope (topS 5)) .none kV_is_whole dc_is_whole pm_is_whole an_is_whole cd_is_whole ct_is_whole), sl_is_whole⟩)
    (c_is_whole : PySem.W.codeIn K cd_is_whole "is_whole" = true)
    (k_is_whole : PySem.W.keepIn K (.ref f_is_whole) = true)
    (a_is_prime : PySem.W.nsIn K mainGlobals "is_prime" = some (some (.ref f_is_prime)))
    (l_is_prime : K.lookup f_is_prime = some ⟨oc_is_prime, od_is_prime, .func (PySem.W.fnOf "is_prime" "is_prime" (defArgs (topS 6)) (defBody (topS 6)) (defScope (topS 6)) .none kV_is_prime dc_is_prime pm_is_prime an_is_prime cd_is_prime ct_is_prime), sl_is_prime⟩)
    (c_is_prime : PySem.W.codeIn K cd_is_prime "is_prime" = true)
    (k_is_prime : PySem.W.keepIn K (.ref f_is_prime) = true)
    (a_inverse : PySem.W.nsIn K mainGlobals "inverse" = some (some (.ref f_inverse)))
    (l_inverse : K.lookup f_inverse = some ⟨oc_inverse, od_inverse, .func (PySem.W.fnOf "inverse" "inverse" (defArgs (topS 7)) (defBody (topS 7)) (defScope (topS 7)) .none kV_inverse dc_inverse pm_inverse an_inverse cd_inverse ct_inverse), sl_inverse⟩)
    (c_inverse : PySem.W.codeIn K cd_inverse "inverse" = true)
    (k_inverse : PySem.W.keepIn K (.ref f_inverse) = true)
    (a_choose : PySem.W.nsIn K mainGlobals "choose" = some (some (.ref f_choose)))
    (l_choose : K.lookup f_choose = some ⟨oc_choose, od_choose, .func (PySem.W.fnOf "choose" "choose" (defArgs (topS 8)) (defBody (topS 8)) (defScope (topS 8)) .none kV_choose dc_choose pm_choose an_choose cd_choose ct_choose), sl_choose⟩)
    (c_choose : PySem.W.codeIn K cd_choose "choose" = true)
    (k_choose : PySem.W.keepIn K (.ref f_choose) = true)
    (a__law_pool : PySem.W.nsIn K mainGlobals "_law_pool" = some (some (.ref f__law_pool)))
    (l__law_pool : K.lookup f__law_pool = some ⟨oc__law_pool, od__law_pool, .func (PySem.W.fnOf "_law_pool" "_law_pool" (defArgs (topS 10)) (defBody (topS 10)) (defScope (topS 10)) .none kV__law_pool dc__law_pool pm__law_pool an__law_pool cd__law_pool ct__law_pool), sl__law_pool⟩)
    (c__law_pool : PySem.W.codeIn K cd__law_pool "_law_pool" = true)
    (k__law_pool : PySem.W.keepIn K (.ref f__law_pool) = true)
    (a__law_draw : PySem.W.nsIn K mainGlobals "_law_draw" = some (some (.ref f__law_draw)))
    (l__law_draw : K.lookup f__law_draw = some ⟨oc__law_draw, od__law_draw, .func (PySem.W.fnOf "_law_draw" "_law_draw" (defArgs (topS 11)) (defBody (topS 11)) (defScope (topS 11)) .none kV__law_draw dc__law_draw pm__law_draw an__law_draw cd__law_draw ct__law_draw), sl__law_draw⟩)
    (c__law_draw : PySem.W.codeIn K cd__law_draw "_law_draw" = true)
    (k__law_draw : PySem.W.keepIn K (.ref f__law_draw) = true)
    (a__law_pick : PySem.W.nsIn K mainGlobals "_law_pick" = some (some (.ref f__law_pick)))
    (l__law_pick : K.lookup f__law_pick = some ⟨oc__law_pick, od__law_pick, .func (PySem.W.fnOf "_law_pick" "_law_pick" (defArgs (topS 12)) (defBody (topS 12)) (defScope (topS 12)) .none kV__law_pick dc__law_pick pm__law_pick an__law_pick cd__law_pick ct__law_pick), sl__law_pick⟩)
    (c__law_pick : PySem.W.codeIn K cd__law_pick "_law_pick" = true)
    (k__law_pick : PySem.W.keepIn K (.ref f__law_pick) = true)
    (a__law_is_whole : PySem.W.nsIn K mainGlobals "_law_is_whole" = some (some (.ref f__law_is_whole)))
    (l__law_is_whole : K.lookup f__law_is_whole = some ⟨oc__law_is_whole, od__law_is_whole, .func (PySem.W.fnOf "_law_is_whole" "_law_is_whole" (defArgs (topS 13)) (defBody (topS 13)) (defScope (topS 13)) .none kV__law_is_whole dc__law_is_whole pm__law_is_whole an__law_is_whole cd__law_is_whole ct__law_is_whole), sl__law_is_whole⟩)
    (c__law_is_whole : PySem.W.codeIn K cd__law_is_whole "_law_is_whole" = true)
    (k__law_is_whole : PySem.W.keepIn K (.ref f__law_is_whole) = true)
    (a__law_is_prime : PySem.W.nsIn K mainGlobals "_law_is_prime" = some (some (.ref f__law_is_prime)))
    (l__law_is_prime : K.lookup f__law_is_prime = some ⟨oc__law_is_prime, od__law_is_prime, .func (PySem.W.fnOf "_law_is_prime" "_law_is_prime" (defArgs (topS 14)) (defBody (topS 14)) (defScope (topS 14)) .none kV__law_is_prime dc__law_is_prime pm__law_is_prime an__law_is_prime cd__law_is_prime ct__law_is_prime), sl__law_is_prime⟩)
    (c__law_is_prime : PySem.W.codeIn K cd__law_is_prime "_law_is_prime" = true)
    (k__law_is_prime : PySem.W.keepIn K (.ref f__law_is_prime) = true)
    (a__law_primes_right : PySem.W.nsIn K mainGlobals "_law_primes_right" = some (some (.ref f__law_primes_right)))
    (l__law_primes_right : K.lookup f__law_primes_right = some ⟨oc__law_primes_right, od__law_primes_right, .func (PySem.W.fnOf "_law_primes_right" "_law_primes_right" (defArgs (topS 15)) (defBody (topS 15)) (defScope (topS 15)) .none kV__law_primes_right dc__law_primes_right pm__law_primes_right an__law_primes_right cd__law_primes_right ct__law_primes_right), sl__law_primes_right⟩)
    (c__law_primes_right : PySem.W.codeIn K cd__law_primes_right "_law_primes_right" = true)
    (k__law_primes_right : PySem.W.keepIn K (.ref f__law_primes_right) = true)
    (a__law_inverted : PySem.W.nsIn K mainGlobals "_law_inverted" = some (some (.ref f__law_inverted)))
    (l__law_inverted : K.lookup f__law_inverted = some ⟨oc__law_inverted, od__law_inverted, .func (PySem.W.fnOf "_law_inverted" "_law_inverted" (defArgs (topS 16)) (defBody (topS 16)) (defScope (topS 16)) .none kV__law_inverted dc__law_inverted pm__law_inverted an__law_inverted cd__law_inverted ct__law_inverted), sl__law_inverted⟩)
    (c__law_inverted : PySem.W.codeIn K cd__law_inverted "_law_inverted" = true)
    (k__law_inverted : PySem.W.keepIn K (.ref f__law_inverted) = true)
    (a__law_inverse_right : PySem.W.nsIn K mainGlobals "_law_inverse_right" = some (some (.ref f__law_inverse_right)))
    (l__law_inverse_right : K.lookup f__law_inverse_right = some ⟨oc__law_inverse_right, od__law_inverse_right, .func (PySem.W.fnOf "_law_inverse_right" "_law_inverse_right" (defArgs (topS 17)) (defBody (topS 17)) (defScope (topS 17)) .none kV__law_inverse_right dc__law_inverse_right pm__law_inverse_right an__law_inverse_right cd__law_inverse_right ct__law_inverse_right), sl__law_inverse_right⟩)
    (c__law_inverse_right : PySem.W.codeIn K cd__law_inverse_right "_law_inverse_right" = true)
    (k__law_inverse_right : PySem.W.keepIn K (.ref f__law_inverse_right) = true)
    (a__law_ways : PySem.W.nsIn K mainGlobals "_law_ways" = some (some (.ref f__law_ways)))
    (l__law_ways : K.lookup f__law_ways = some ⟨oc__law_ways, od__law_ways, .func (PySem.W.fnOf "_law_ways" "_law_ways" (defArgs (topS 18)) (defBody (topS 18)) (defScope (topS 18)) .none kV__law_ways dc__law_ways pm__law_ways an__law_ways cd__law_ways ct__law_ways), sl__law_ways⟩)
    (c__law_ways : PySem.W.codeIn K cd__law_ways "_law_ways" = true)
    (k__law_ways : PySem.W.keepIn K (.ref f__law_ways) = true)
    (a_law : PySem.W.nsIn K mainGlobals "law" = some (some (.ref f_law)))
    (l_law : K.lookup f_law = some ⟨oc_law, od_law, .func (PySem.W.fnOf "law" "law" (defArgs (topS 19)) (defBody (topS 19)) (defScope (topS 19)) .none kV_law dc_law pm_law an_law cd_law ct_law), sl_law⟩)
    (c_law : PySem.W.codeIn K cd_law "law" = true)
    (k_law : PySem.W.keepIn K (.ref f_law) = true)
    (b_bool : PySem.W.nsIn K mainGlobals "bool" = some none)
    (b_int : PySem.W.nsIn K mainGlobals "int" = some none)
    (b_isinstance : PySem.W.nsIn K mainGlobals "isinstance" = some none)
    (b_len : PySem.W.nsIn K mainGlobals "len" = some none)
    (b_list : PySem.W.nsIn K mainGlobals "list" = some none)
    (b_min : PySem.W.nsIn K mainGlobals "min" = some none)
    (b_range : PySem.W.nsIn K mainGlobals "range" = some none)
    (b_zip : PySem.W.nsIn K mainGlobals "zip" = some none)
    (v_MOST_PRIME : PySem.W.nsIn K mainGlobals "MOST_PRIME" = some (some (.int 65521 tk_MOST_PRIME)))
    (bE_ValueError : PySem.W.nsIn K mainGlobals "ValueError" = some none) :
    ∃ fd : FuncData, (∀ (s : Shared) (v : Value), BindsTo s fd ⟨[v], []⟩ [("_law_script", v)]) ∧ ∀ base : Heap, K.In base → base.Ns mainGlobals mg → FnOk P w K mg base (L2.CX P w) 6 fa fd ["_law_script"] (spLaw K) := by
  have e := hfa.symm.trans (PySem.W.mg_of X G a_law)
  cases e
  have T : Tx K mg := ⟨PySem.W.mg_none_of X G b_bool, PySem.W.mg_none_of X G b_int, PySem.W.mg_none_of X G b_isinstance, PySem.W.mg_none_of X G b_len, PySem.W.mg_none_of X G b_list, PySem.W.mg_none_of X G b_min, PySem.W.mg_none_of X G b_range, PySem.W.mg_none_of X G b_zip, ⟨_, PySem.W.mg_of X G v_MOST_PRIME⟩⟩
  have F_is_whole := fun_mk (st := topS 5) l_is_whole c_is_whole k_is_whole
  have B_is_whole := F_is_whole.binds (ps := ["thing", "low", "high"]) fun _ _ _ _ _ _ us hl => match us, hl with | [_, _, _], _ => rfl
  have F_is_prime := fun_mk (st := topS 6) l_is_prime c_is_prime k_is_prime
  have B_is_prime := F_is_prime.binds (ps := ["n"]) fun _ _ _ _ _ _ us hl => match us, hl with | [_], _ => rfl
  have F_inverse := fun_mk (st := topS 7) l_inverse c_inverse k_inverse
  have B_inverse := F_inverse.binds (ps := ["a", "p"]) fun _ _ _ _ _ _ us hl => match us, hl with | [_, _], _ => rfl
  have F_choose := fun_mk (st := topS 8) l_choose c_choose k_choose
  have B_choose := F_choose.binds (ps := ["n", "j", "p"]) fun _ _ _ _ _ _ us hl => match us, hl with | [_, _, _], _ => rfl
  have F__law_pool := fun_mk (st := topS 10) l__law_pool c__law_pool k__law_pool
  have B__law_pool := F__law_pool.binds (ps := ["_law_script"]) fun _ _ _ _ _ _ us hl => match us, hl with | [_], _ => rfl
  have F__law_draw := fun_mk (st := topS 11) l__law_draw c__law_draw k__law_draw
  have B__law_draw := F__law_draw.binds (ps := ["_law_pool_here", "_law_many"]) fun _ _ _ _ _ _ us hl => match us, hl with | [_, _], _ => rfl
  have F__law_pick := fun_mk (st := topS 12) l__law_pick c__law_pick k__law_pick
  have B__law_pick := F__law_pick.binds (ps := ["_law_pool_here", "_law_things"]) fun _ _ _ _ _ _ us hl => match us, hl with | [_, _], _ => rfl
  have F__law_is_whole := fun_mk (st := topS 13) l__law_is_whole c__law_is_whole k__law_is_whole
  have B__law_is_whole := F__law_is_whole.binds (ps := ["_law_thing"]) fun _ _ _ _ _ _ us hl => match us, hl with | [_], _ => rfl
  have F__law_is_prime := fun_mk (st := topS 14) l__law_is_prime c__law_is_prime k__law_is_prime
  have B__law_is_prime := F__law_is_prime.binds (ps := ["_law_n"]) fun _ _ _ _ _ _ us hl => match us, hl with | [_], _ => rfl
  have F__law_primes_right := fun_mk (st := topS 15) l__law_primes_right c__law_primes_right k__law_primes_right
  have B__law_primes_right := F__law_primes_right.binds (ps := ["_law_pool_here"]) fun _ _ _ _ _ _ us hl => match us, hl with | [_], _ => rfl
  have F__law_inverted := fun_mk (st := topS 16) l__law_inverted c__law_inverted k__law_inverted
  have B__law_inverted := F__law_inverted.binds (ps := ["_law_a", "_law_p"]) fun _ _ _ _ _ _ us hl => match us, hl with | [_, _], _ => rfl
  have F__law_inverse_right := fun_mk (st := topS 17) l__law_inverse_right c__law_inverse_right k__law_inverse_right
  have B__law_inverse_right := F__law_inverse_right.binds (ps := ["_law_a", "_law_p"]) fun _ _ _ _ _ _ us hl => match us, hl with | [_, _], _ => rfl
  have F__law_ways := fun_mk (st := topS 18) l__law_ways c__law_ways k__law_ways
  have B__law_ways := F__law_ways.binds (ps := ["_law_n", "_law_j"]) fun _ _ _ _ _ _ us hl => match us, hl with | [_, _], _ => rfl
  have F_law := fun_mk (st := topS 19) l_law c_law k_law
  have B_law := F_law.binds (ps := ["_law_script"]) fun _ _ _ _ _ _ us hl => match us, hl with | [_], _ => rfl
  have FI := fun_mk (st := inClass (topS 1) 0) lI cI kI
  have BI := FI.binds (ps := ["self", "what"]) fun _ _ _ _ _ _ us hl => match us, hl with | [_, _], _ => rfl
  have SI : FnScope ["self", "what"] ["self", "what"] (defScope (inClass (topS 1) 0)) := ⟨rfl, rfl, rfl, by decide +kernel, rfl, by decide +kernel, by decide +kernel⟩
  have two : ∀ {c : Str}, errTab.contains c = true → c = "NoInverse" := fun {c} h => by simpa [errTab] using h
  have ht0 := ht
  have EX : ErX K mg := {
    at_ := fun c cls ht hm => by
      rcases two ht with rfl
      · cases (PySem.W.mg_of X G aC_NoInverse).symm.trans hm; exact ⟨_, rfl, ⟨ga_NoInverse, gg_NoInverse, eC_NoInverse, hC_NoInverse, nw_NoInverse⟩⟩
    is_ := fun c cls ht hm => by
      rcases two ht with rfl
      · cases (PySem.W.mg_of X G aC_NoInverse).symm.trans hm; exact ⟨_, rfl, ⟨ga_NoInverse, gg_NoInverse, eC_NoInverse, hC_NoInverse, ha_NoInverse, hn, ht0, hm_NoInverse⟩⟩
    n_NoInverse := ⟨_, PySem.W.mg_of X G aC_NoInverse, fun c cls ht hm => by
      rcases two ht with rfl
      · cases (PySem.W.mg_of X G aC_NoInverse).symm.trans hm; rw [show catches "NoInverse" "NoInverse" = true from by decide +kernel]; exact PySem.W.exm_ref eC_NoInverse hC_NoInverse tC_NoInverse x_NoInverse_NoInverse⟩
    i_Refused := ⟨_, PySem.W.mg_of X G aC_Refused, fun c C ht hm => by
      rcases two ht with rfl
      · cases (PySem.W.mg_of X G aC_NoInverse).symm.trans hm; rw [show catches "Refused" "NoInverse" = true from by decide +kernel]; exact y_Refused_NoInverse⟩
    i_ValueError := ⟨PySem.W.mg_none_of X G bE_ValueError, fun c C ht hm => by
      rcases two ht with rfl
      · cases (PySem.W.mg_of X G aC_NoInverse).symm.trans hm; rw [show catches "ValueError" "NoInverse" = true from by decide +kernel]; exact y_ValueError_NoInverse⟩ }
  refine ⟨PySem.W.fnOf "law" "law" (defArgs (topS 19)) (defBody (topS 19)) (defScope (topS 19)) .none kV_law dc_law pm_law an_law cd_law ct_law, fun s v => ?_, fun base hb gb => ?_⟩
  rotate_left
  · have E_NoInverse : ErC P w K mg base "NoInverse" := ⟨C_NoInverse, fI, _, _, PySem.W.mg_of X G aC_NoInverse, ⟨⟨_, _, _, _, _, _, _, _, _, _, _, _, _, _, _, lC_NoInverse, rC_NoInverse⟩, sa_NoInverse, eC_NoInverse, tC_NoInverse, kC_NoInverse⟩, iC_NoInverse, tI, nw_NoInverse, init_ok FI SI rfl rfl rfl, BI⟩
    have D_is_whole : Df P w K mg base 1 "is_whole" 3 den_is_whole := ⟨_, _, _, ok_is_whole F_is_whole T , PySem.W.mg_of X G a_is_whole, k_is_whole, B_is_whole⟩
    have D_is_prime : Df P w K mg base 2 "is_prime" 1 den_is_prime := ⟨_, _, _, ok_is_prime F_is_prime T D_is_whole, PySem.W.mg_of X G a_is_prime, k_is_prime, B_is_prime⟩
    have D_inverse : Df P w K mg base 3 "inverse" 2 den_inverse := ⟨_, _, _, ok_inverse F_inverse T E_NoInverse, PySem.W.mg_of X G a_inverse, k_inverse, B_inverse⟩
    have D_choose : Df P w K mg base 1 "choose" 3 den_choose := ⟨_, _, _, ok_choose F_choose T , PySem.W.mg_of X G a_choose, k_choose, B_choose⟩
    have D__law_pool : Df P w K mg base 1 "_law_pool" 1 den__law_pool := ⟨_, _, _, ok__law_pool F__law_pool T , PySem.W.mg_of X G a__law_pool, k__law_pool, B__law_pool⟩
    have D__law_draw : Df P w K mg base 1 "_law_draw" 2 den__law_draw := ⟨_, _, _, ok__law_draw F__law_draw T , PySem.W.mg_of X G a__law_draw, k__law_draw, B__law_draw⟩
    have D__law_pick : Df P w K mg base 2 "_law_pick" 2 den__law_pick := ⟨_, _, _, ok__law_pick F__law_pick T D__law_draw, PySem.W.mg_of X G a__law_pick, k__law_pick, B__law_pick⟩
    have D__law_is_whole : Df P w K mg base 1 "_law_is_whole" 1 den__law_is_whole := ⟨_, _, _, ok__law_is_whole F__law_is_whole T , PySem.W.mg_of X G a__law_is_whole, k__law_is_whole, B__law_is_whole⟩
    have D__law_is_prime : Df P w K mg base 2 "_law_is_prime" 1 den__law_is_prime := ⟨_, _, _, ok__law_is_prime F__law_is_prime T D__law_is_whole, PySem.W.mg_of X G a__law_is_prime, k__law_is_prime, B__law_is_prime⟩
    have D__law_primes_right : Df P w K mg base 3 "_law_primes_right" 1 den__law_primes_right := ⟨_, _, _, ok__law_primes_right F__law_primes_right T D__law_pick D__law_draw D_is_prime D__law_is_prime, PySem.W.mg_of X G a__law_primes_right, k__law_primes_right, B__law_primes_right⟩
    have D__law_inverted : Df P w K mg base 4 "_law_inverted" 2 den__law_inverted := ⟨_, _, _, ok__law_inverted F__law_inverted T D_inverse EX, PySem.W.mg_of X G a__law_inverted, k__law_inverted, B__law_inverted⟩
    have D__law_inverse_right : Df P w K mg base 5 "_law_inverse_right" 2 den__law_inverse_right := ⟨_, _, _, ok__law_inverse_right F__law_inverse_right T D__law_inverted D__law_is_whole, PySem.W.mg_of X G a__law_inverse_right, k__law_inverse_right, B__law_inverse_right⟩
    have D__law_ways : Df P w K mg base 1 "_law_ways" 2 den__law_ways := ⟨_, _, _, ok__law_ways F__law_ways T , PySem.W.mg_of X G a__law_ways, k__law_ways, B__law_ways⟩
    exact law_imp (ok_law (P := P) (w := w) (base := base) F_law T D__law_pool D__law_primes_right D__law_pick D__law_draw D__law_inverse_right D_choose D__law_is_whole D__law_ways) law_true
  · exact .of_eq rfl
end FSEnd
open PySem PySem.W PyProof.Rows
set_option maxRecDepth 100000 in
set_option maxHeartbeats 0 in
theorem PySem.Challenge.cw_firstsafe_k01_primes_and_inverses_holds : PySem.Challenge.rw_firstsafe_k01_primes_and_inverses.Holds := by
  w_on; o_law; k_head; (case hw => w_witness2)
  k_fill
  refine FS.law_walk (l := PySem.Challenge.rw_firstsafe_k01_primes_and_inverses) (k := 6) (x := "_law_script") rfl rfl ⟨rfl, by decide, by decide⟩ (fun w h Y => PySem.W.kIn_of Y) ?F
  case F =>
    intro w mg fa h KX G hmg
    refine' FSEnd.all_mk KX G hmg ?aC_NoInverse ?lC_NoInverse ?rC_NoInverse ?sa_NoInverse ?ga_NoInverse ?gg_NoInverse ?nw_NoInverse ?kC_NoInverse ?eC_NoInverse ?tC_NoInverse ?hC_NoInverse ?iC_NoInverse ?ha_NoInverse ?hm_NoInverse ?aC_Refused ?lC_Refused ?rC_Refused ?sa_Refused ?ga_Refused ?gg_Refused ?nw_Refused ?kC_Refused ?eC_Refused ?tC_Refused ?hC_Refused ?hn ?ht ?tI ?lI ?cI ?kI ?x_NoInverse_NoInverse ?y_Refused_NoInverse ?y_ValueError_NoInverse ?a_is_whole ?l_is_whole ?c_is_whole ?k_is_whole ?a_is_prime ?l_is_prime ?c_is_prime ?k_is_prime ?a_inverse ?l_inverse ?c_inverse ?k_inverse ?a_choose ?l_choose ?c_choose ?k_choose ?a__law_pool ?l__law_pool ?c__law_pool ?k__law_pool ?a__law_draw ?l__law_draw ?c__law_draw ?k__law_draw ?a__law_pick ?l__law_pick ?c__law_pick ?k__law_pick ?a__law_is_whole ?l__law_is_whole ?c__law_is_whole ?k__law_is_whole ?a__law_is_prime ?l__law_is_prime ?c__law_is_prime ?k__law_is_prime ?a__law_primes_right ?l__law_primes_right ?c__law_primes_right ?k__law_primes_right ?a__law_inverted ?l__law_inverted ?c__law_inverted ?k__law_inverted ?a__law_inverse_right ?l__law_inverse_right ?c__law_inverse_right ?k__law_inverse_right ?a__law_ways ?l__law_ways ?c__law_ways ?k__law_ways ?a_law ?l_law ?c_law ?k_law ?b_bool ?b_int ?b_isinstance ?b_len ?b_list ?b_min ?b_range ?b_zip ?v_MOST_PRIME ?bE_ValueError
    (case aC_NoInverse => k_is)
    (case lC_NoInverse => k_is)
    (case rC_NoInverse => decide +kernel)
    (case sa_NoInverse => k_is)
    (case ga_NoInverse => k_is)
    (case gg_NoInverse => k_is)
    (case nw_NoInverse => k_is)
    (case kC_NoInverse => k_is)
    (case eC_NoInverse => k_is)
    (case tC_NoInverse => k_is)
    (case hC_NoInverse => k_is)
    (case iC_NoInverse => k_is)
    (case ha_NoInverse => k_is)
    (case hm_NoInverse => k_is)
    (case aC_Refused => k_is)
    (case lC_Refused => k_is)
    (case rC_Refused => decide +kernel)
    (case sa_Refused => k_is)
    (case ga_Refused => k_is)
    (case gg_Refused => k_is)
    (case nw_Refused => k_is)
    (case kC_Refused => k_is)
    (case eC_Refused => k_is)
    (case tC_Refused => k_is)
    (case hC_Refused => k_is)
    (case hn => k_is)
    (case ht => k_is)
    (case tI => k_is)
    (case lI => k_is)
    (case cI => k_is)
    (case kI => k_is)
    (case x_NoInverse_NoInverse => first | rfl | k_is)
    (case y_Refused_NoInverse => first | rfl | k_is | kit_is)
    (case y_ValueError_NoInverse => first | rfl | k_is | kit_is)
    (case a_is_whole => k_is)
    (case l_is_whole => k_is)
    (case c_is_whole => k_is)
    (case k_is_whole => k_is)
    (case a_is_prime => k_is)
    (case l_is_prime => k_is)
    (case c_is_prime => k_is)
    (case k_is_prime => k_is)
    (case a_inverse => k_is)
    (case l_inverse => k_is)
    (case c_inverse => k_is)
    (case k_inverse => k_is)
    (case a_choose => k_is)
    (case l_choose => k_is)
    (case c_choose => k_is)
    (case k_choose => k_is)
    (case a__law_pool => k_is)
    (case l__law_pool => k_is)
    (case c__law_pool => k_is)
    (case k__law_pool => k_is)
    (case a__law_draw => k_is)
    (case l__law_draw => k_is)
    (case c__law_draw => k_is)
    (case k__law_draw => k_is)
    (case a__law_pick => k_is)
    (case l__law_pick => k_is)
    (case c__law_pick => k_is)
    (case k__law_pick => k_is)
    (case a__law_is_whole => k_is)
    (case l__law_is_whole => k_is)
    (case c__law_is_whole => k_is)
    (case k__law_is_whole => k_is)
    (case a__law_is_prime => k_is)
    (case l__law_is_prime => k_is)
    (case c__law_is_prime => k_is)
    (case k__law_is_prime => k_is)
    (case a__law_primes_right => k_is)
    (case l__law_primes_right => k_is)
    (case c__law_primes_right => k_is)
    (case k__law_primes_right => k_is)
    (case a__law_inverted => k_is)
    (case l__law_inverted => k_is)
    (case c__law_inverted => k_is)
    (case k__law_inverted => k_is)
    (case a__law_inverse_right => k_is)
    (case l__law_inverse_right => k_is)
    (case c__law_inverse_right => k_is)
    (case k__law_inverse_right => k_is)
    (case a__law_ways => k_is)
    (case l__law_ways => k_is)
    (case c__law_ways => k_is)
    (case k__law_ways => k_is)
    (case a_law => k_is)
    (case l_law => k_is)
    (case c_law => k_is)
    (case k_law => k_is)
    (case b_bool => k_is)
    (case b_int => k_is)
    (case b_isinstance => k_is)
    (case b_len => k_is)
    (case b_list => k_is)
    (case b_min => k_is)
    (case b_range => k_is)
    (case b_zip => k_is)
    (case v_MOST_PRIME => k_is)
    (case bE_ValueError => k_is)
#print axioms PySem.Challenge.cw_firstsafe_k01_primes_and_inverses_holds

