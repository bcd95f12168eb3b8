import PyProof.Rows.All
import Wide.All
import OpenK.AllK
import Wide.FinOn
import HandS.ForMost
import HandS.ForExc
import HandS.Lambda
import HandS.TupAny
import HandS.TupMul
import HandS.Deep
import HandS.IsInst
import HandS.CallSlots
import HandS.Wide
import HandS.ExcInit
import HandS.Zip
import HandS.SetFor
import HandS.Iter
import KE.GoesEnum
import HandS.Conv
import HandS.Style
import KE.GoesZip
import KE.GoesMore
import HandS.TryMany
import KE.KExcIs
import KE.KIsAll
import HandS.EndTab
import KE.KTupSum
import KE.DataFind
import HandS.AnyAll
import PyProof.Rows.GenSrcRange
import HandS.GenOver
import HandS.GenList
import HandS.Strs
import HandS.SetBool
import HandS.SortKw
import HandS.NoneIn
import PySem.Challenge.RW_firstsafe_k60_charters
import HandS.EndOwn
import HandS.ExcIs
set_option Elab.async false
set_option linter.all false
set_option maxRecDepth 100000
/-! FsBase: values as data, the abstract store, the relation to the hand layer's heap. -/
namespace FS
open PySem PySem.Spec L2
open LamX (TabS Tabs ExtN CodeO)
/-- a value as data: a list that nobody changes any more is data too; a shared list or object is a number -/
inductive PV where
  | non | bl (b : Bool) | int (i : Int) | str (x : Str) | tup (xs : List PV) | tuz (xs : List PV) | lst (xs : List PV) | scr (ns : List Int) | ref (n : Nat) | raw (v : V)
/-- a name's place: no value, a value, a list that this frame alone holds, a caught error (its own dict at d) -/
inductive Slot where
  | none | val (p : PV) | own (xs : List PV) | exc (a d : Addr) (w : PV)
/-- a shared object -/
inductive SO where
  | lst (xs : List PV)
abbrev Env := List Slot
abbrev Stt := List SO
/-- how a piece of code ends -/
inductive Out (α : Type) where
  | ok (a : α) (e : Env) (s : Stt)
  | raise (c : Str) (w : PV) (e : Env) (s : Stt)
  | bad
abbrev Cd (α : Type) := Env → Stt → Out α
def ret {α : Type} (a : α) : Cd α := fun e s => .ok a e s
def Out.bind {α β : Type} (o : Out α) (k : α → Cd β) : Out β := match o with
  | .ok a e s => k a e s
  | .raise c w e s => .raise c w e s
  | .bad => .bad
def bnd {α β : Type} (d : Cd α) (k : α → Cd β) : Cd β := fun e s => (d e s).bind k
/-- a partial function's value -/
def lift {α : Type} (o : Option α) : Cd α := fun e s => match o with
  | some a => .ok a e s
  | none => .bad
structure Wd where
  m : List Addr
  fz : Addr → Prop
  H : Hp
  T : List (Addr × Str)
abbrev noH : Hp := fun _ => none
/-- a tuple that has no dict -/
def Td (K : PySem.W.Frag) (G : Wd) (a : Addr) (vs : List V) : Prop := (G.fz a ∧ ∃ o : Obj, o.dict = none ∧ G.H a = some (.frz o (.tup vs))) ∨ (SqT K noH a vs ∧ ∀ o, K.lookup a = some o → o.dict = none)
mutual
inductive Rep (K : PySem.W.Frag) (G : Wd) : PV → V → Prop
  | non : Rep K G .non .non
  | bl (b : Bool) : Rep K G (.bl b) (.bl b)
  | int (i : Int) : Rep K G (.int i) (.int i)
  | str (x : Str) : Rep K G (.str x) (.str x)
  | tup {a : Addr} {vs : List V} {xs : List PV} : Td K G a vs → RepL K G xs vs → Rep K G (.tup xs) (.ref a)
  | tuz {a : Addr} {vs : List V} {xs : List PV} : G.fz a → G.H a = some (.tup vs) → RepL K G xs vs → Rep K G (.tuz xs) (.ref a)
  | lst {a : Addr} {vs : List V} {xs : List PV} : G.fz a → G.H a = some (.lst vs) → RepL K G xs vs → Rep K G (.lst xs) (.ref a)
  | scr {a : Addr} {ns : List Int} : ((G.fz a ∧ SqL K G.H a (ns.map V.int)) ∨ SqL K noH a (ns.map V.int)) → Rep K G (.scr ns) (.ref a)
  | ref {a : Addr} {n : Nat} : G.m[n]? = some a → Rep K G (.ref n) (.ref a)
  | raw (v : V) : Rep K G (.raw v) v
inductive RepL (K : PySem.W.Frag) (G : Wd) : List PV → List V → Prop
  | nil : RepL K G [] []
  | cons {x : PV} {v : V} {xs : List PV} {vs : List V} : Rep K G x v → RepL K G xs vs → RepL K G (x :: xs) (v :: vs)
end
/-- later: what is frozen stands -/
structure Mon (G G' : Wd) : Prop where
  m : ∃ r, G'.m = G.m ++ r
  fz : ∀ a, G.fz a → G'.fz a ∧ G'.H a = G.H a
theorem Mon.refl (G : Wd) : Mon G G := ⟨⟨[], by simp⟩, fun a h => ⟨h, rfl⟩⟩
theorem Mon.trans {G1 G2 G3 : Wd} (a : Mon G1 G2) (b : Mon G2 G3) : Mon G1 G3 := by
  obtain ⟨r, e⟩ := a.m
  obtain ⟨r', e'⟩ := b.m
  refine ⟨⟨r ++ r', by rw [e', e, List.append_assoc]⟩, fun x h => ?_⟩
  obtain ⟨h1, e1⟩ := a.fz x h
  obtain ⟨h2, e2⟩ := b.fz x h1
  exact ⟨h2, e2.trans e1⟩
theorem Mon.at {G G' : Wd} (h : Mon G G') {n : Nat} {a : Addr} (e : G.m[n]? = some a) : G'.m[n]? = some a := by
  obtain ⟨r, q⟩ := h.m
  have hl : n < G.m.length := (List.getElem?_eq_some_iff.mp e).1
  rw [q, List.getElem?_append_left hl]
  exact e
theorem SqL.of_eq {K : PySem.W.Frag} {H H' : Hp} {a : Addr} {xs : List V} (e : H' a = H a) (h : SqL K H a xs) : SqL K H' a xs := by
  rcases h with (h | ⟨o, h⟩) | h
  · exact .inl (.inl (e.trans h))
  · exact .inl (.inr ⟨o, e.trans h⟩)
  · exact .inr h
mutual
theorem Rep.mono {K : PySem.W.Frag} {G G' : Wd} (M : Mon G G') : ∀ (p : PV) (v : V), Rep K G p v → Rep K G' p v
  | .non, _, h => by cases h; exact .non
  | .bl b, _, h => by cases h; exact .bl b
  | .int i, _, h => by cases h; exact .int i
  | .str x, _, h => by cases h; exact .str x
  | .tup xs, _, h => by
    cases h with
    | tup h r =>
      refine .tup ?_ (RepL.mono M xs _ r)
      rcases h with ⟨h1, o, h3, h2⟩ | h
      · obtain ⟨q1, q2⟩ := M.fz _ h1
        exact .inl ⟨q1, o, h3, q2.trans h2⟩
      · exact .inr h
  | .tuz xs, _, h => by
    cases h with
    | tuz h1 h2 r =>
      obtain ⟨q1, q2⟩ := M.fz _ h1
      exact .tuz q1 (q2.trans h2) (RepL.mono M xs _ r)
  | .lst xs, _, h => by
    cases h with
    | lst h1 h2 r =>
      obtain ⟨q1, q2⟩ := M.fz _ h1
      exact .lst q1 (q2.trans h2) (RepL.mono M xs _ r)
  | .scr ns, _, h => by
    cases h with
    | scr h =>
      rcases h with ⟨h1, h2⟩ | h
      · obtain ⟨q1, q2⟩ := M.fz _ h1
        exact .scr (.inl ⟨q1, SqL.of_eq q2 h2⟩)
      · exact .scr (.inr h)
  | .ref n, _, h => by
    cases h with
    | ref h => exact .ref (M.at h)
  | .raw v, _, h => by cases h; exact .raw v
theorem RepL.mono {K : PySem.W.Frag} {G G' : Wd} (M : Mon G G') : ∀ (ps : List PV) (vs : List V), RepL K G ps vs → RepL K G' ps vs
  | [], _, h => by cases h; exact .nil
  | x :: xs, _, h => by
    cases h with
    | cons h r => exact .cons (Rep.mono M x _ h) (RepL.mono M xs _ r)
end
section
variable {K : PySem.W.Frag} {G G' : Wd}
theorem Rep.mon {p : PV} {v : V} (h : Rep K G p v) (M : Mon G G') : Rep K G' p v := Rep.mono M p v h
theorem RepL.mon {p : List PV} {v : List V} (h : RepL K G p v) (M : Mon G G') : RepL K G' p v := RepL.mono M p v h
theorem RepL.length : ∀ {ps : List PV} {vs : List V}, RepL K G ps vs → ps.length = vs.length
  | _, _, .nil => rfl
  | _, _, .cons _ r => congrArg (· + 1) (RepL.length r)
theorem RepL.get : ∀ {ps : List PV} {vs : List V} {i : Nat} {p : PV}, RepL K G ps vs → ps[i]? = some p → ∃ v, vs[i]? = some v ∧ Rep K G p v
  | _, _, i, p, .nil, e => by simp at e
  | _, _, 0, p, .cons h _, e => by
    simp at e
    subst e
    exact ⟨_, rfl, h⟩
  | _, _, i + 1, p, .cons _ r, e => by
    obtain ⟨v, e', h⟩ := RepL.get (i := i) r (by simpa using e)
    exact ⟨v, by simpa using e', h⟩
theorem RepL.append : ∀ {ps qs : List PV} {vs ws : List V}, RepL K G ps vs → RepL K G qs ws → RepL K G (ps ++ qs) (vs ++ ws)
  | _, _, _, _, .nil, r => r
  | _, _, _, _, .cons h t, r => .cons h (t.append r)
theorem RepL.take : ∀ {ps : List PV} {vs : List V} (n : Nat), RepL K G ps vs → RepL K G (ps.take n) (vs.take n)
  | _, _, 0, _ => by rw [List.take_zero, List.take_zero]; exact .nil
  | _, _, n + 1, .nil => .nil
  | _, _, n + 1, .cons h r => .cons h (r.take n)
theorem RepL.drop : ∀ {ps : List PV} {vs : List V} (n : Nat), RepL K G ps vs → RepL K G (ps.drop n) (vs.drop n)
  | _, _, 0, h => h
  | _, _, n + 1, .nil => .nil
  | _, _, n + 1, .cons _ r => r.drop n
theorem RepL.set : ∀ {ps : List PV} {vs : List V} (n : Nat) {p : PV} {v : V}, RepL K G ps vs → Rep K G p v → RepL K G (ps.set n p) (vs.set n v)
  | _, _, _, _, _, .nil, _ => .nil
  | _, _, 0, _, _, .cons _ r, q => .cons q r
  | _, _, n + 1, _, _, .cons h r, q => .cons h (r.set n q)
theorem RepL.erase : ∀ {ps : List PV} {vs : List V} (n : Nat), RepL K G ps vs → RepL K G (ps.eraseIdx n) (vs.eraseIdx n)
  | _, _, _, .nil => .nil
  | _, _, 0, .cons _ r => r
  | _, _, n + 1, .cons h r => .cons h (r.erase n)
theorem RepL.snoc {ps : List PV} {vs : List V} {p : PV} {v : V} (h : RepL K G ps vs) (q : Rep K G p v) : RepL K G (ps ++ [p]) (vs ++ [v]) := h.append (.cons q .nil)
theorem RepL.rep : ∀ (n : Nat) {ps : List PV} {vs : List V}, RepL K G ps vs → RepL K G (List.replicate n ps).flatten (List.replicate n vs).flatten
  | 0, _, _, _ => .nil
  | n + 1, ps, vs, h => by
    rw [List.replicate_succ, List.replicate_succ, List.flatten_cons, List.flatten_cons]
    exact h.append (RepL.rep n h)
theorem RepL.ints : ∀ (ns : List Int), RepL K G (ns.map PV.int) (ns.map V.int)
  | [] => .nil
  | n :: ns => .cons (.int n) (RepL.ints ns)
end
/-! ### the shared store, the frame -/
def RepO (K : PySem.W.Frag) (G : Wd) : SO → Option HO → Prop
  | .lst xs, h => ∃ vs, h = some (.lst vs) ∧ RepL K G xs vs
structure RepS (K : PySem.W.Frag) (G : Wd) (S : Stt) : Prop where
  len : G.m.length = S.length
  nd : G.m.Nodup
  nf : ∀ a ∈ G.m, ¬ G.fz a
  ob : ∀ (i : Nat) (a : Addr) (o : SO), G.m[i]? = some a → S[i]? = some o → RepO K G o (G.H a)
def IsOwn (env : Env) (i : Nat) : Prop := ∃ xs, env[i]? = some (.own xs)
structure RepE (K : PySem.W.Frag) (G : Wd) (env : Env) (σ : St) : Prop where
  len : env.length = σ.length
  val : ∀ (i : Nat) (p : PV), env[i]? = some (.val p) → ∃ v, σ[i]? = some (some v) ∧ Rep K G p v
  own : ∀ (i : Nat) (xs : List PV), env[i]? = some (.own xs) → ∃ a vs, σ[i]? = some (some (.ref a)) ∧ G.H a = some (.lst vs) ∧ RepL K G xs vs ∧ ¬ G.fz a ∧ a ∉ G.m
  exc : ∀ (i : Nat) (a d : Addr) (w : PV), env[i]? = some (.exc a d w) → σ[i]? = some (some (.ref a)) ∧ G.fz d ∧ ∃ v, G.H d = some (.xd [(("what" : Str), v)]) ∧ Rep K G w v
  dis : ∀ (i j : Nat) (a : Addr), IsOwn env i → IsOwn env j → σ[i]? = some (some (.ref a)) → σ[j]? = some (some (.ref a)) → i = j
/-- no data stands there: nothing, or a code object's table -/
def Nu (H : Hp) (a : Addr) : Prop := H a = none ∨ ∃ ps, H a = some (.tbl ps)
/-- no table -/
def NT (o : HO) : Prop := ∀ ps, o ≠ .tbl ps
theorem Nu.no {H : Hp} {a : Addr} {o : HO} (h : Nu H a) (e : H a = some o) (n : NT o) : False := by
  rcases h with h | ⟨ps, h⟩
  · rw [h] at e; cases e
  · rw [h] at e; exact n ps (Option.some.inj e).symm
theorem nt_lst {vs : List V} : NT (.lst vs) := fun _ e => by cases e
theorem nt_xd {fs : List (Str × V)} : NT (.xd fs) := fun _ e => by cases e
theorem nt_frz {o : Obj} {u : HO} : NT (.frz o u) := fun _ e => by cases e
theorem tab_poke {H : Hp} {a : Addr} {vs vs' : List V} (e : H a = some (.lst vs)) {P : Addr} {q : Str} (t : TabS H P q) : TabS (upd H a (.lst vs')) P q := by
  obtain ⟨ps, h1, h2, h3⟩ := t
  refine ⟨ps, ?_, h2, fun pos cv h => ?_⟩
  · rw [upd_ne (fun z => by rw [z, e] at h1; cases h1)]
    exact h1
  · obtain ⟨c, e1, e2⟩ := h3 pos cv h
    refine ⟨c, e1, ?_⟩
    rw [upd_ne (fun z => by rw [z, e] at e2; cases e2)]
    exact e2
theorem nu_poke {H : Hp} {a c : Addr} {vs : List V} (h : Nu (upd H a (.lst vs)) c) : Nu H c := by
  have hne : c ≠ a := fun z => by subst z; exact h.no upd_same nt_lst
  rcases h with h | ⟨ps, h⟩
  · exact .inl (by rw [upd_ne hne] at h; exact h)
  · exact .inr ⟨ps, by rw [upd_ne hne] at h; exact h⟩
theorem tabs_poke {H : Hp} {a : Addr} {vs vs' : List V} (e : H a = some (.lst vs)) {T : List (Addr × Str)} (t : Tabs T H) : Tabs T (upd H a (.lst vs')) := fun p hp => tab_poke e (t p hp)
/-- what a call does to its caller's world -/
structure Ent (G0 G : Wd) : Prop where
  pre : ∃ r, G.m = G0.m ++ r
  new : ∀ a ∈ G.m, a ∈ G0.m ∨ Nu G0.H a
  fz : ∀ a, G0.fz a → G.fz a
  fzn : ∀ a, G.fz a → G0.fz a ∨ Nu G0.H a
  keep : ∀ a o, G0.H a = some o → NT o → a ∉ G0.m → G.H a = some o
  there : ∀ a, Nu G.H a → Nu G0.H a
  T : G.T = G0.T
  tb : Tabs G0.T G0.H → Tabs G0.T G.H
theorem Ent.refl (G : Wd) : Ent G G := ⟨⟨[], by simp⟩, fun _ h => .inl h, fun _ h => h, fun _ h => .inl h, fun _ _ h _ _ => h, fun _ h => h, rfl, fun h => h⟩
theorem Ent.trans {G0 G1 G2 : Wd} (a : Ent G0 G1) (b : Ent G1 G2) : Ent G0 G2 := by
  obtain ⟨r, e⟩ := a.pre
  obtain ⟨r', e'⟩ := b.pre
  refine ⟨⟨r ++ r', by rw [e', e, List.append_assoc]⟩, fun x h => ?_, fun x h => b.fz x (a.fz x h), fun x h => ?_, fun x o h hn hm => ?_, fun x h => a.there x (b.there x h), b.T.trans a.T, fun h => by
    have q := a.tb h
    rw [← a.T] at q ⊢
    exact b.tb q⟩
  · rcases b.new x h with h | h
    · exact a.new x h
    · exact .inr (a.there x h)
  · rcases b.fzn x h with h | h
    · exact a.fzn x h
    · exact .inr (a.there x h)
  · have h1 := a.keep x o h hn hm
    refine b.keep x o h1 hn fun h2 => ?_
    rcases a.new x h2 with h3 | h3
    · exact hm h3
    · exact h3.no h hn
/-- only new things -/
structure Ext (G G' : Wd) : Prop where
  T : G'.T = G.T
  m : G'.m = G.m
  fz : ∀ a, G.fz a → G'.fz a
  fzn : ∀ a, G'.fz a → G.fz a ∨ G.H a = none
  keep : ∀ a o, G.H a = some o → G'.H a = some o
theorem Ext.refl (G : Wd) : Ext G G := ⟨rfl, rfl, fun _ h => h, fun _ h => .inl h, fun _ _ h => h⟩
theorem Ext.there {G G' : Wd} (x : Ext G G') {a : Addr} (h : G'.H a = none) : G.H a = none := by
  cases e : G.H a with
  | none => rfl
  | some o => rw [x.keep a o e] at h; cases h
theorem Ext.trans {G G1 G2 : Wd} (a : Ext G G1) (b : Ext G1 G2) : Ext G G2 := by
  refine ⟨b.T.trans a.T, b.m.trans a.m, fun x h => b.fz x (a.fz x h), fun x h => ?_, fun x o h => b.keep x o (a.keep x o h)⟩
  rcases b.fzn x h with h | h
  · exact a.fzn x h
  · exact .inr (a.there h)
theorem Ext.nu {G G' : Wd} (x : Ext G G') {a : Addr} (h : Nu G'.H a) : Nu G.H a := by
  rcases h with h | ⟨ps, h⟩
  · exact .inl (x.there h)
  · cases e : G.H a with
    | none => exact .inl e
    | some o => rw [x.keep a o e] at h; exact .inr ⟨ps, by rw [e]; exact h⟩
theorem Ext.ent {G G' : Wd} (x : Ext G G') : Ent G G' :=
  ⟨⟨[], by rw [x.m]; simp⟩, fun a h => .inl (by rw [← x.m]; exact h), x.fz, fun a h => (x.fzn a h).imp id .inl, fun a o h _ _ => x.keep a o h, fun a h => x.nu h, x.T, fun h p hp => (h p hp).ext x.keep⟩
/-- what is frozen is there, and no table -/
def Sure (G : Wd) : Prop := ∀ a, G.fz a → ∃ o, G.H a = some o ∧ NT o
theorem Ext.mon {G G' : Wd} (x : Ext G G') (s : Sure G) : Mon G G' := ⟨⟨[], by rw [x.m]; simp⟩, fun a h => ⟨x.fz a h, by
  obtain ⟨o, e, _⟩ := s a h
  rw [e, x.keep a o e]⟩⟩
/-- a new thing, frozen -/
abbrev Wd.frozen (G : Wd) (a : Addr) (o : HO) : Wd := ⟨G.m, fun b => G.fz b ∨ b = a, upd G.H a o, G.T⟩
/-- a new thing, not frozen -/
abbrev Wd.fresh (G : Wd) (a : Addr) (o : HO) : Wd := ⟨G.m, G.fz, upd G.H a o, G.T⟩
theorem keepU {H : Hp} {a : Addr} {o : HO} (hn : H a = none) : ∀ b u, H b = some u → upd H a o b = some u := fun b u e => by
  rw [upd_ne (ne_of_none e hn)]
  exact e
theorem Ext.frozen {G : Wd} {a : Addr} {o : HO} (hn : G.H a = none) : Ext G (G.frozen a o) :=
  ⟨rfl, rfl, fun _ h => .inl h, fun b h => h.elim .inl fun e => .inr (by rw [e]; exact hn), keepU hn⟩
theorem Ext.fresh {G : Wd} {a : Addr} {o : HO} (hn : G.H a = none) : Ext G (G.fresh a o) :=
  ⟨rfl, rfl, fun _ h => h, fun b h => .inl h, keepU hn⟩
/-- the frame's state: G0 the world at the def's entry -/
structure At (K : PySem.W.Frag) (G0 G : Wd) (S : Stt) (env : Env) (σ : St) : Prop where
  st : RepS K G S
  en : RepE K G env σ
  ent : Ent G0 G
  mine : ∀ (i : Nat) (a : Addr), IsOwn env i → σ[i]? = some (some (.ref a)) → Nu G0.H a
  sure : Sure G
theorem RepO.mono {K : PySem.W.Frag} {G G' : Wd} (M : Mon G G') {o : SO} {h : Option HO} (r : RepO K G o h) : RepO K G' o h := by
  cases o with
  | lst xs => obtain ⟨vs, e, r⟩ := r; exact ⟨vs, e, r.mon M⟩
theorem RepO.some {K : PySem.W.Frag} {G : Wd} {o : SO} {h : Option HO} (r : RepO K G o h) : ∃ u, h = some u := by
  cases o with
  | lst xs => obtain ⟨vs, e, r⟩ := r; exact ⟨_, e⟩
section
variable {K : PySem.W.Frag} {G0 G G' : Wd} {S S' : Stt} {env : Env} {σ : St}
theorem RepS.there (s : RepS K G S) {a : Addr} (h : a ∈ G.m) : ∃ u, G.H a = some u := by
  obtain ⟨i, hi⟩ := List.getElem?_of_mem h
  have hl : i < S.length := by rw [← s.len]; exact (List.getElem?_eq_some_iff.mp hi).1
  exact (s.ob i a S[i] hi (by simp [hl])).some
theorem RepS.ext (s : RepS K G S) (x : Ext G G') (M : Mon G G') : RepS K G' S := by
  refine ⟨by rw [x.m]; exact s.len, by rw [x.m]; exact s.nd, fun a h h' => ?_, fun i a o h1 h2 => ?_⟩
  · rw [x.m] at h
    rcases x.fzn a h' with q | q
    · exact s.nf a h q
    · obtain ⟨u, e⟩ := s.there h
      rw [q] at e; cases e
  · rw [x.m] at h1
    have q := s.ob i a o h1 h2
    obtain ⟨u, e⟩ := q.some
    rw [x.keep a u e, ← e]
    exact q.mono M
/-- the frame over a change that keeps the frozen and the frame's own -/
theorem RepE.over (r : RepE K G env σ) (M : Mon G G') (hk : ∀ (i : Nat) (a : Addr), IsOwn env i → σ[i]? = some (some (.ref a)) → G'.H a = G.H a ∧ ¬ G'.fz a ∧ a ∉ G'.m) : RepE K G' env σ := by
  refine ⟨r.len, fun i p e => ?_, fun i xs e => ?_, fun i a d w e => ?_, r.dis⟩
  · obtain ⟨v, e1, h⟩ := r.val i p e
    exact ⟨v, e1, h.mon M⟩
  · obtain ⟨a, vs, e1, e2, h, _, _⟩ := r.own i xs e
    obtain ⟨q1, q2, q3⟩ := hk i a ⟨xs, e⟩ e1
    exact ⟨a, vs, e1, q1.trans e2, h.mon M, q2, q3⟩
  · obtain ⟨e1, h1, v, e2, h2⟩ := r.exc i a d w e
    obtain ⟨q1, q2⟩ := M.fz d h1
    exact ⟨e1, q1, v, q2.trans e2, h2.mon M⟩
/-- .. over a call -/
theorem At.call (A : At K G0 G S env σ) (E : Ent G G') (M : Mon G G') (s : RepS K G' S') (su : Sure G') : At K G0 G' S' env σ := by
  refine ⟨s, A.en.over M fun i a ho e => ?_, A.ent.trans E, A.mine, su⟩
  obtain ⟨xs, ho⟩ := ho
  obtain ⟨b, vs, e1, e2, _, n1, n2⟩ := A.en.own i xs ho
  rw [e1] at e
  cases e
  refine ⟨by rw [e2]; exact E.keep _ _ e2 nt_lst n2, fun h => ?_, fun h => ?_⟩
  · rcases E.fzn _ h with h | h
    · exact n1 h
    · exact h.no e2 nt_lst
  · rcases E.new _ h with h | h
    · exact n2 h
    · exact h.no e2 nt_lst
theorem Ext.sure (x : Ext G G') (s : Sure G) (h : ∀ a, G'.fz a → G.fz a ∨ ∃ o, G'.H a = some o ∧ NT o) : Sure G' := fun a q => by
  rcases h a q with h | h
  · obtain ⟨o, e, n⟩ := s a h
    exact ⟨o, x.keep a o e, n⟩
  · exact h
/-- .. over new things -/
theorem At.ext (A : At K G0 G S env σ) (x : Ext G G') (su : Sure G') : At K G0 G' S env σ := A.call x.ent (x.mon A.sure) (A.st.ext x (x.mon A.sure)) su
theorem At.frozen {a : Addr} {o : HO} (A : At K G0 G S env σ) (hn : G.H a = none) (nt : NT o := by intro _ e; cases e) : At K G0 (G.frozen a o) S env σ :=
  A.ext (Ext.frozen hn) ((Ext.frozen hn).sure A.sure fun b h => h.elim .inl fun e => .inr ⟨o, by rw [e]; exact upd_same, nt⟩)
theorem At.fresh {a : Addr} {o : HO} (A : At K G0 G S env σ) (hn : G.H a = none) : At K G0 (G.fresh a o) S env σ :=
  A.ext (Ext.fresh hn) ((Ext.fresh hn).sure A.sure fun b h => .inl h)
end
/-! ### readings -/
structure Zx where
  K : PySem.W.Frag
  mg : Str → Option Value
  G0 : Wd
  W : WX
/-- what is wanted of a raising end -/
def PRaise (z : Zx) (G : Wd) (c : Str) (w : PV) (env : Env) (S : Stt) (σ : St) : Prop :=
  ∀ (G' : Wd) (cls : Value) (d : Addr) (v : V), Mon G G' → At z.K z.G0 G' S env σ → z.mg c = some cls → Nu z.G0.H d → G'.H d = some (.xd [(("what" : Str), v)]) → Rep z.K G' w v → z.W cls (some d) σ G'.H
/-- behind an expression -/
def Post (z : Zx) (G : Wd) (σ : St) (Q : VK) : Out PV → Prop
  | .ok p env S => ∀ (v : V) (G' : Wd), Mon G G' → At z.K z.G0 G' S env σ → Rep z.K G' p v → Q v G'.H
  | .raise c w env S => ∀ σ', PRaise z G c w env S σ'
  | .bad => False
/-- .. a test -/
def PostT (z : Zx) (G : Wd) (σ : St) (Q : Bool → Hp → Prop) : Out Bool → Prop
  | .ok b env S => ∀ (G' : Wd), Mon G G' → At z.K z.G0 G' S env σ → Q b G'.H
  | .raise c w env S => ∀ σ', PRaise z G c w env S σ'
  | .bad => False
/-- .. arguments -/
def PostA (z : Zx) (G : Wd) (σ : St) (Q : List V → Hp → Prop) : Out (List PV) → Prop
  | .ok ps env S => ∀ (vs : List V) (G' : Wd), Mon G G' → At z.K z.G0 G' S env σ → RepL z.K G' ps vs → Q vs G'.H
  | .raise c w env S => ∀ σ', PRaise z G c w env S σ'
  | .bad => False
/-- .. a list that nobody else holds -/
def PostF (z : Zx) (G : Wd) (σ : St) (Q : VK) : Out (List PV) → Prop
  | .ok xs env S => ∀ (a : Addr) (vs : List V) (G' : Wd), Mon G G' → At z.K z.G0 G' S env σ → RepL z.K G' xs vs → G'.H a = some (.lst vs) → ¬ G'.fz a → a ∉ G'.m → Nu z.G0.H a →
      (∀ i : Nat, IsOwn env i → σ[i]? ≠ some (some (.ref a))) → Q (.ref a) G'.H
  | .raise c w env S => ∀ σ', PRaise z G c w env S σ'
  | .bad => False
/-- a statement's end -/
inductive Flw where
  | next | ret (p : PV) | brk | cont
def PostS (z : Zx) (G : Wd) (D : Ends) : Out Flw → Prop
  | .ok .next env S => ∀ (σ' : St) (G' : Wd), Mon G G' → At z.K z.G0 G' S env σ' → D.nx σ' G'.H
  | .ok .brk env S => ∀ (σ' : St) (G' : Wd), Mon G G' → At z.K z.G0 G' S env σ' → D.bk σ' G'.H
  | .ok .cont env S => ∀ (σ' : St) (G' : Wd), Mon G G' → At z.K z.G0 G' S env σ' → D.ct σ' G'.H
  | .ok (.ret p) env S => ∀ (v : V) (σ' : St) (G' : Wd), Mon G G' → At z.K z.G0 G' S env σ' → Rep z.K G' p v → D.rt v G'.H
  | .raise c w env S => ∀ σ', PRaise z G c w env S σ'
  | .bad => False
def RE (z : Zx) (d : Cd PV) : TE := fun σ H Q => ∃ G env S, G.H = H ∧ At z.K z.G0 G S env σ ∧ Post z G σ Q (d env S)
def RT (z : Zx) (d : Cd Bool) : TT := fun σ H Q => ∃ G env S, G.H = H ∧ At z.K z.G0 G S env σ ∧ PostT z G σ Q (d env S)
def RA (z : Zx) (d : Cd (List PV)) : TA := fun σ H Q => ∃ G env S, G.H = H ∧ At z.K z.G0 G S env σ ∧ PostA z G σ Q (d env S)
def RF (z : Zx) (d : Cd (List PV)) : TE := fun σ H Q => ∃ G env S, G.H = H ∧ At z.K z.G0 G S env σ ∧ PostF z G σ Q (d env S)
def RS (z : Zx) (d : Cd Flw) : TS := fun D σ H => ∃ G env S, G.H = H ∧ At z.K z.G0 G S env σ ∧ PostS z G D (d env S)
theorem PRaise.later {z : Zx} {G G1 : Wd} {c : Str} {w : PV} {env : Env} {S : Stt} {σ : St} (h : PRaise z G c w env S σ) (M : Mon G G1) : PRaise z G1 c w env S σ :=
  fun G' cls d v m a e1 e0 e2 r => h G' cls d v (M.trans m) a e1 e0 e2 r
theorem Post.later {z : Zx} {G G1 : Wd} {σ : St} {Q : VK} {o : Out PV} (h : Post z G σ Q o) (M : Mon G G1) : Post z G1 σ Q o := by
  cases o with
  | ok p env S => exact fun v G' m a r => h v G' (M.trans m) a r
  | raise c w env S => exact fun σ' => (h σ').later M
  | bad => exact h
theorem PostT.later {z : Zx} {G G1 : Wd} {σ : St} {Q : Bool → Hp → Prop} {o : Out Bool} (h : PostT z G σ Q o) (M : Mon G G1) : PostT z G1 σ Q o := by
  cases o with
  | ok p env S => exact fun G' m a => h G' (M.trans m) a
  | raise c w env S => exact fun σ' => (h σ').later M
  | bad => exact h
theorem PostA.later {z : Zx} {G G1 : Wd} {σ : St} {Q : List V → Hp → Prop} {o : Out (List PV)} (h : PostA z G σ Q o) (M : Mon G G1) : PostA z G1 σ Q o := by
  cases o with
  | ok p env S => exact fun v G' m a r => h v G' (M.trans m) a r
  | raise c w env S => exact fun σ' => (h σ').later M
  | bad => exact h
theorem PostF.later {z : Zx} {G G1 : Wd} {σ : St} {Q : VK} {o : Out (List PV)} (h : PostF z G σ Q o) (M : Mon G G1) : PostF z G1 σ Q o := by
  cases o with
  | ok p env S => exact fun a vs G' m => h a vs G' (M.trans m)
  | raise c w env S => exact fun σ' => (h σ').later M
  | bad => exact h
theorem PostS.later {z : Zx} {G G1 : Wd} {D : Ends} {o : Out Flw} (h : PostS z G D o) (M : Mon G G1) : PostS z G1 D o := by
  cases o with
  | ok f env S =>
    cases f with
    | next => exact fun σ' G' m => h σ' G' (M.trans m)
    | brk => exact fun σ' G' m => h σ' G' (M.trans m)
    | cont => exact fun σ' G' m => h σ' G' (M.trans m)
    | ret p => exact fun v σ' G' m => h v σ' G' (M.trans m)
  | raise c w env S => exact fun σ' => (h σ').later M
  | bad => exact h
end FS
set_option Elab.async false
set_option linter.all false
set_option maxRecDepth 100000
/-! FsTupN: new tuples, known to the object: they have no dict. -/
namespace L2
open PySem PySem.Spec PyProof.Rows HT
theorem objN {P : Program} {w : World} {H : Hp} {h : Heap} {a : Addr} {xs : List V} {its : List Value} {o : Obj} (hz : xs.length ≤ sizeLine) (r : Vals xs its) (hg : h.get? a = some o) (hc : o.cls = .type "tuple") (hd : ∃ n, o.data = .seq its.toArray n) :
    ObjOk P w H h a (.frz o (.tup xs)) := ⟨hg, hz, its, r, o, hg, hc, hd⟩
section
variable {X : Cx} {e : Expr} {es : List Expr} {te : TE} {t : TA} {pos : Pos}
def tTupN (t : TA) : TE := fun σ H Q => t σ H fun xs H1 => xs.length ≤ sizeLine ∧ ∀ p o, H1 p = none → o.dict = none → Q (.ref p) (upd H1 p (.frz o (.tup xs)))
theorem pe_tupN {x1} (h : PA X es t) : PE X (.Tuple es x1 pos) (tTupN t) := by
  refine ⟨fun pins s σ H Q I hq => ?_⟩
  refine wpAny_Tuple_spliced (thn (h.run pos pins s σ H _ I hq) fun us s1 ⟨xs, H1, I1, r, z, q⟩ => ⟨by rw [← r.length]; exact z, ?_⟩)
  have hf : H1 s1.heap.objs.size = none := I1.hok.fresh (Nat.le_refl _)
  refine ⟨.ref s1.heap.objs.size, upd H1 s1.heap.objs.size (.frz _ (.tup xs)), I1.laid (t' := s1.toks) (fun b u e => Heap.get?_push_of_some _ e) (Nat.le_refl _) (objN (its := us) z r (Heap.get?_push_size _ rfl) rfl ⟨_, rfl⟩), rfl, q _ _ hf rfl⟩
/-- t + u -/
def rCatN (K : PySem.W.Frag) : R2 := fun x y H Q => ∃ a b xs ys, x = .ref a ∧ y = .ref b ∧ SqT K H a xs ∧ SqT K H b ys ∧ xs.length + ys.length ≤ sizeLine ∧
  (xs = [] → Q (.ref b) H) ∧ (xs ≠ [] → ys = [] → Q (.ref a) H) ∧ (xs ≠ [] → ys ≠ [] → ∀ p o, H p = none → o.dict = none → Q (.ref p) (upd H p (.frz o (.tup (xs ++ ys)))))
theorem op_catN : OpR X (binaryOp .Add) (rCatN X.K) := by
  intro pins s σ H x y v u Q I rx ry h
  obtain ⟨a, b, xs, ys, rfl, rfl, ha, hb, hz, q0, q1, q2⟩ := h
  cases rx
  cases ry
  obtain ⟨its, r1, p1, _⟩ := I.tuple ha
  obtain ⟨its2, r2, p2, _⟩ := I.tuple hb
  by_cases hx : xs = []
  · subst hx
    cases r1
    exact cat_tup0 p1 p2 ⟨.ref b, H, I, rfl, q0 rfl⟩
  · refine HT.cat_tup p1 p2 (fun z => hx (r1.nil_iff.mp z)) (fun z => ⟨.ref a, H, I, rfl, q1 hx (r2.nil_iff.mp z)⟩) (fun z => ?_) (by rw [← r1.length, ← r2.length]; exact hz)
    exact ⟨.ref s.heap.objs.size, _, I.laid (t' := s.toks) (o := .frz _ (.tup (xs ++ ys))) (fun b ob q => Heap.get?_push_of_some _ q) (Nat.le_refl _) (objN (by rw [List.length_append]; exact hz) (r1.append r2) (Heap.get?_push_size _ rfl) rfl ⟨_, rfl⟩), rfl,
      q2 hx (fun w => z (r2.nil_iff.mpr w)) _ _ (I.hok.fresh (Nat.le_refl _)) rfl⟩
/-- t[lo:hi]: the whole of it is t itself -/
def rSlN (K : PySem.W.Frag) : V → Option Int → Option Int → Hp → VK → Prop := fun x lo hi H Q => ∃ a xs, x = .ref a ∧ SqT K H a xs ∧
  (HT.sIx xs.length 0 lo = 0 ∧ HT.sIx xs.length xs.length hi = xs.length → Q (.ref a) H) ∧ (¬ (HT.sIx xs.length 0 lo = 0 ∧ HT.sIx xs.length xs.length hi = xs.length) → ∀ p o, H p = none → o.dict = none → Q (.ref p) (upd H p (.frz o (.tup (cutV xs lo hi)))))
theorem sl_tupN : SlR X (rSlN X.K) := by
  intro pins s σ H x v vl vu lo hi sl Q I rx hs pl pu h
  obtain ⟨a, xs, rfl, hx, q1, q2⟩ := h
  cases rx
  obtain ⟨its, r, ht, hz⟩ := I.tuple hx
  have hlen : its.toArray.size = xs.length := by rw [List.size_toArray]; exact r.length.symm
  by_cases hw : HT.sIx xs.length 0 lo = 0 ∧ HT.sIx xs.length xs.length hi = xs.length
  · refine ⟨"tuple", _, PyProof.Rows.slot_tuple_getitem.lookup, ht.typeIs, ?_⟩
    exact getItem_tuple_whole ht hs pl pu (by rw [hlen]; exact hw) ⟨.ref a, H, I, rfl, q1 hw⟩
  · refine ⟨"tuple", _, PyProof.Rows.slot_tuple_getitem.lookup, ht.typeIs, ?_⟩
    refine HT.getItem_tuple_cut ht hs pl pu (by rw [hlen]; exact hw) ?_ (by rw [hlen]; exact hz)
    rw [hlen]
    exact ⟨.ref s.heap.objs.size, _, I.laid (t' := s.toks) (o := .frz _ (.tup (cutV xs lo hi))) (fun b ob q => Heap.get?_push_of_some _ q) (Nat.le_refl _)
      (objN (Nat.le_trans (cutV_length xs lo hi) hz) ((r.drop (HT.sIx xs.length 0 lo)).take (HT.sIx xs.length xs.length hi - HT.sIx xs.length 0 lo)) (Heap.get?_push_size _ rfl) rfl ⟨_, rfl⟩), rfl, q2 hw _ _ (I.hok.fresh (Nat.le_refl _)) rfl⟩
theorem call_tuple_ofN : CallR X (.type "tuple") (fun xs H Q => ∃ p ys, xs = [.ref p] ∧ ((SqL X.K H p ys ∧ ∀ l o, H l = none → o.dict = none → Q (.ref l) (upd H l (.frz o (.tup ys)))) ∨ (SqT X.K H p ys ∧ Q (.ref p) H))) := by
  intro pins s σ H xs us Q I r h
  obtain ⟨p, ys, rfl, h⟩ := h
  obtain ⟨u, rfl, rx⟩ := vals1 r
  cases rx
  rcases h with ⟨hq, q⟩ | ⟨hq, q⟩
  · obtain ⟨its, r', pl, hz⟩ := I.list hq
    have hlen := r'.length
    refine call_tuple_list pl.isList (fun h' kp => ?_) (by simp only [List.size_toArray] <;> omega)
    have I1 : Inv X pins σ H { s with heap := h' } := I.kept (t' := s.toks) kp
    have I2 : Inv X pins σ (upd H h'.objs.size (.frz { cls := .type "tuple", data := .seq its.toArray } (.tup ys))) { s with heap := h'.push { cls := .type "tuple", data := .seq its.toArray } } :=
      I1.laid (t' := s.toks) (fun b o e => Heap.get?_push_of_some _ e) (Nat.le_refl _) (objN hz r' (Heap.get?_push_size _ rfl) rfl ⟨_, rfl⟩)
    exact ⟨.ref h'.objs.size, _, I2, rfl, q _ _ (I1.hok.fresh (Nat.le_refl _)) rfl⟩
  · obtain ⟨its, r', pl, hz⟩ := I.tuple hq
    exact call_tuple_same pl ⟨.ref p, H, I, rfl, q⟩
end
end L2
set_option Elab.async false
set_option linter.all false
set_option maxRecDepth 100000
/-! FsExpr: expressions. -/
namespace FS
open PySem PySem.Spec L2
/-! ### how ends compose -/
structure Lw (z : Zx) {β : Type} (F : Wd → Out β → Prop) : Prop where
  later : ∀ G G1 o, F G o → Mon G G1 → F G1 o
  rais : ∀ G c w e S, F G (.raise c w e S) → ∀ σ', PRaise z G c w e S σ'
  bad : ∀ G, F G .bad → False
section
variable {z : Zx} {σ : St}
theorem lwE {Q : VK} : Lw z (fun G o => Post z G σ Q o) := ⟨fun _ _ _ h m => h.later m, fun _ _ _ _ _ h => h, fun _ h => h⟩
theorem lwT {Q : Bool → Hp → Prop} : Lw z (fun G o => PostT z G σ Q o) := ⟨fun _ _ _ h m => h.later m, fun _ _ _ _ _ h => h, fun _ h => h⟩
theorem lwA {Q : List V → Hp → Prop} : Lw z (fun G o => PostA z G σ Q o) := ⟨fun _ _ _ h m => h.later m, fun _ _ _ _ _ h => h, fun _ h => h⟩
theorem lwF {Q : VK} : Lw z (fun G o => PostF z G σ Q o) := ⟨fun _ _ _ h m => h.later m, fun _ _ _ _ _ h => h, fun _ h => h⟩
theorem lwS {D : Ends} : Lw z (fun G o => PostS z G D o) := ⟨fun _ _ _ h m => h.later m, fun _ _ _ _ _ h => h, fun _ h => h⟩
section
variable {β : Type} {F : Wd → Out β → Prop} {G : Wd} {env : Env} {S : Stt}
theorem toE (L : Lw z F) {d : Cd PV} {k : PV → Cd β} {R : VK} (A : At z.K z.G0 G S env σ) (P : F G (bnd d k env S))
    (h : ∀ p env1 S1 v G1, Mon G G1 → At z.K z.G0 G1 S1 env1 σ → Rep z.K G1 p v → F G1 (k p env1 S1) → R v G1.H) : RE z d σ G.H R := by
  refine ⟨G, env, S, rfl, A, ?_⟩
  unfold bnd at P
  cases e : d env S with
  | ok p env1 S1 =>
    rw [e] at P
    exact fun v G1 m a r => h p env1 S1 v G1 m a r (L.later _ _ _ P m)
  | raise c w env1 S1 =>
    rw [e] at P
    exact L.rais _ _ _ _ _ P
  | bad =>
    rw [e] at P
    exact (L.bad _ P).elim
theorem toT (L : Lw z F) {d : Cd Bool} {k : Bool → Cd β} {R : Bool → Hp → Prop} (A : At z.K z.G0 G S env σ) (P : F G (bnd d k env S))
    (h : ∀ b env1 S1 G1, Mon G G1 → At z.K z.G0 G1 S1 env1 σ → F G1 (k b env1 S1) → R b G1.H) : RT z d σ G.H R := by
  refine ⟨G, env, S, rfl, A, ?_⟩
  unfold bnd at P
  cases e : d env S with
  | ok p env1 S1 =>
    rw [e] at P
    exact fun G1 m a => h p env1 S1 G1 m a (L.later _ _ _ P m)
  | raise c w env1 S1 =>
    rw [e] at P
    exact L.rais _ _ _ _ _ P
  | bad =>
    rw [e] at P
    exact (L.bad _ P).elim
theorem toA (L : Lw z F) {d : Cd (List PV)} {k : List PV → Cd β} {R : List V → Hp → Prop} (A : At z.K z.G0 G S env σ) (P : F G (bnd d k env S))
    (h : ∀ p env1 S1 v G1, Mon G G1 → At z.K z.G0 G1 S1 env1 σ → RepL z.K G1 p v → F G1 (k p env1 S1) → R v G1.H) : RA z d σ G.H R := by
  refine ⟨G, env, S, rfl, A, ?_⟩
  unfold bnd at P
  cases e : d env S with
  | ok p env1 S1 =>
    rw [e] at P
    exact fun v G1 m a r => h p env1 S1 v G1 m a r (L.later _ _ _ P m)
  | raise c w env1 S1 =>
    rw [e] at P
    exact L.rais _ _ _ _ _ P
  | bad =>
    rw [e] at P
    exact (L.bad _ P).elim
/-- a list that nobody else holds -/
structure Alone (z : Zx) (G : Wd) (env : Env) (σ : St) (a : Addr) (vs : List V) : Prop where
  at_ : G.H a = some (.lst vs)
  nf : ¬ G.fz a
  nm : a ∉ G.m
  n0 : Nu z.G0.H a
  no : ∀ i : Nat, IsOwn env i → σ[i]? ≠ some (some (.ref a))
theorem toF (L : Lw z F) {d : Cd (List PV)} {k : List PV → Cd β} {R : VK} (A : At z.K z.G0 G S env σ) (P : F G (bnd d k env S))
    (h : ∀ p env1 S1 a vs G1, Mon G G1 → At z.K z.G0 G1 S1 env1 σ → RepL z.K G1 p vs → Alone z G1 env1 σ a vs → F G1 (k p env1 S1) → R (.ref a) G1.H) : RF z d σ G.H R := by
  refine ⟨G, env, S, rfl, A, ?_⟩
  unfold bnd at P
  cases e : d env S with
  | ok p env1 S1 =>
    rw [e] at P
    exact fun a vs G1 m A1 r h1 h2 h3 h4 h5 => h p env1 S1 a vs G1 m A1 r ⟨h1, h2, h3, h4, h5⟩ (L.later _ _ _ P m)
  | raise c w env1 S1 =>
    rw [e] at P
    exact L.rais _ _ _ _ _ P
  | bad =>
    rw [e] at P
    exact (L.bad _ P).elim
end
/-! ### new things -/
section
variable {G : Wd} {env : Env} {S : Stt} {a : Addr} {vs : List V}
theorem At.alone (A : At z.K z.G0 G S env σ) (hn : G.H a = none) : Alone z (G.fresh a (.lst vs)) env σ a vs := by
  refine ⟨upd_same, fun h => ?_, fun h => ?_, A.ent.there a (.inl hn), fun i ho e => ?_⟩
  · obtain ⟨o, q, _⟩ := A.sure a h
    rw [hn] at q; cases q
  · obtain ⟨o, q⟩ := A.st.there h
    rw [hn] at q; cases q
  · obtain ⟨xs, ho⟩ := ho
    obtain ⟨b, ws, e1, e2, _⟩ := A.en.own i xs ho
    rw [e] at e1; cases e1
    rw [hn] at e2; cases e2
/-- a list is frozen -/
abbrev Wd.freeze (G : Wd) (a : Addr) : Wd := ⟨G.m, fun b => G.fz b ∨ b = a, G.H, G.T⟩
theorem mon_freeze : Mon G (G.freeze a) := ⟨⟨[], by simp⟩, fun b h => ⟨.inl h, rfl⟩⟩
theorem At.freeze (A : At z.K z.G0 G S env σ) (q : Alone z G env σ a vs) : At z.K z.G0 (G.freeze a) S env σ := by
  have M : Mon G (G.freeze a) := mon_freeze
  refine ⟨⟨A.st.len, A.st.nd, fun b hb h => ?_, fun i b o h1 h2 => (A.st.ob i b o h1 h2).mono M⟩, A.en.over M fun i b ho e => ⟨rfl, fun h => ?_, ?_⟩, ?_, A.mine, fun b h => ?_⟩
  · rcases h with h | h
    · exact A.st.nf b hb h
    · rw [h] at hb; exact q.nm hb
  · rcases h with h | h
    · obtain ⟨xs, ho⟩ := ho
      obtain ⟨c, ws, e1, _, _, n1, _⟩ := A.en.own i xs ho
      rw [e] at e1; cases e1
      exact n1 h
    · rw [h] at e
      exact q.no i ho e
  · obtain ⟨xs, ho⟩ := ho
    obtain ⟨c, ws, e1, _, _, _, n2⟩ := A.en.own i xs ho
    rw [e] at e1; cases e1
    exact n2
  · exact ⟨A.ent.pre, A.ent.new, fun b h => .inl (A.ent.fz b h), fun b h => h.elim (A.ent.fzn b) fun e => .inr (by rw [e]; exact q.n0), A.ent.keep, A.ent.there, A.ent.T, A.ent.tb⟩
  · rcases h with h | h
    · exact A.sure b h
    · exact ⟨_, by rw [h]; exact q.at_, nt_lst⟩
end
end
/-! ### judgements -/
section
variable {X : Cx} {z : Zx}
theorem _root_.L2.PE.imp {e : Expr} {t t' : TE} (h : PE X e t) (i : ∀ σ H Q, t' σ H Q → t σ H Q) : PE X e t' := ⟨fun pins s σ H Q I q => h.run pins s σ H Q I (i σ H Q q)⟩
theorem _root_.L2.PT.imp {e : Expr} {t t' : TT} (h : PT X e t) (i : ∀ σ H Q, t' σ H Q → t σ H Q) : PT X e t' := ⟨fun pins s σ H Q I q => h.run pins s σ H Q I (i σ H Q q)⟩
theorem _root_.L2.PA.imp {e : List Expr} {t t' : TA} (h : PA X e t) (i : ∀ σ H Q, t' σ H Q → t σ H Q) : PA X e t' := ⟨fun pos pins s σ H Q I q => h.run pos pins s σ H Q I (i σ H Q q)⟩
theorem _root_.L2.PS.imp {e : Stmt} {t t' : TS} (h : PS X e t) (i : ∀ D σ H, t' D σ H → t D σ H) : PS X e t' := ⟨fun pins s σ H D I q => h.run pins s σ H D I (i D σ H q)⟩
theorem _root_.L2.PSs.imp {e : List Stmt} {t t' : TS} (h : PSs X e t) (i : ∀ D σ H, t' D σ H → t D σ H) : PSs X e t' := ⟨fun pins s σ H D I q => h.run pins s σ H D I (i D σ H q)⟩
abbrev ME (X : Cx) (z : Zx) (e : Expr) (d : Cd PV) : Prop := PE X e (RE z d)
abbrev MT (X : Cx) (z : Zx) (e : Expr) (d : Cd Bool) : Prop := PT X e (RT z d)
abbrev MA (X : Cx) (z : Zx) (e : List Expr) (d : Cd (List PV)) : Prop := PA X e (RA z d)
abbrev MF (X : Cx) (z : Zx) (e : Expr) (d : Cd (List PV)) : Prop := PE X e (RF z d)
/-! ### names and constants -/
variable {pos p1 p2 : Pos}
theorem me_c {e : Expr} {v : V} {p : PV} (h : PE X e (tC v)) (hr : ∀ G, Rep z.K G p v) : ME X z e (ret p) :=
  h.imp fun σ H Q ⟨G, env, S, e, A, P⟩ => by
    subst e
    exact P v G (Mon.refl G) A (hr G)
theorem me_int {i : Int} {j} : ME X z (.Constant (.int i) j pos) (ret (.int i)) := me_c pe_int fun _ => .int i
theorem me_bl {b : Bool} {j} : ME X z (.Constant (.bool b) j pos) (ret (.bl b)) := me_c pe_bl fun _ => .bl b
theorem me_non {j} : ME X z (.Constant .none j pos) (ret .non) := me_c pe_non fun _ => .non
theorem me_str {x : Str} {j} : ME X z (.Constant (.str x) j pos) (ret (.str x)) := me_c pe_str fun _ => .str x
/-- a module's name: a constant, or a def or class as a value -/
theorem me_glob {x : Str} {v : V} {u : Value} {p : PV} (hm : X.mg x = some u) (r : RelV v u) (hr : ∀ G, Rep z.K G p v) (hg : Gl X x := by rfl) (hd : (x == ("__debug__" : Str)) = false := by decide) : ME X z (.Name x pos) (ret p) := me_c (pe_glob hg hm r hd) hr
theorem me_gint {x : Str} {i : Int} {t : Tok} (hm : X.mg x = some (.int i t)) (hg : Gl X x := by rfl) (hd : (x == ("__debug__" : Str)) = false := by decide) : ME X z (.Name x pos) (ret (.int i)) := me_glob (v := .int i) hm ⟨_, rfl⟩ (fun _ => .int i) hg hd
theorem me_ty {x : Str} {n : String} (hm : X.mg x = none) (hv : bootBuiltins x = some (.type n)) (hg : Gl X x := by rfl) (hn : x ≠ "__name__" := by decide) (hd : (x == ("__debug__" : Str)) = false := by decide) : ME X z (.Name x pos) (ret (.raw (.ty n))) :=
  me_c (pe_bltn (v := .ty n) hg hm hv rfl hn hd) fun _ => .raw _
/-! ### arguments, displays -/
def dNil : Cd (List PV) := ret []
def dCons (d : Cd PV) (r : Cd (List PV)) : Cd (List PV) := bnd d fun p => bnd r fun ps => ret (p :: ps)
theorem ma_nil : MA X z [] dNil := pa_nil.imp fun σ H Q ⟨G, env, S, e, A, P⟩ => by
  subst e
  exact P [] G (Mon.refl G) A .nil
theorem ma_cons {e : Expr} {es : List Expr} {d : Cd PV} {r : Cd (List PV)} (ha : ME X z e d) (hr : MA X z es r) (hs : starEach (e :: es) X.env = (false, eval e X.env) :: starEach es X.env := by rfl) : MA X z (e :: es) (dCons d r) := by
  refine (pa_cons ha hr hs).imp fun σ H Q ⟨G, env, S, e, A, P⟩ => ?_
  subst e
  exact toE lwA A P fun p env1 S1 v G1 m1 A1 r1 P1 => toA lwA A1 P1 fun ps env2 S2 vs G2 m2 A2 r2 P2 => P2 (v :: vs) G2 (Mon.refl _) A2 (.cons (r1.mon m2) r2)
def dTup (d : Cd (List PV)) : Cd PV := bnd d fun ps => if ps.length ≤ sizeLine then ret (.tup ps) else fun _ _ => .bad
theorem me_tup {es : List Expr} {d : Cd (List PV)} {x1} (h : MA X z es d) : ME X z (.Tuple es x1 pos) (dTup d) := by
  refine (pe_tupN h).imp fun σ H Q ⟨G, env, S, e, A, P⟩ => ?_
  subst e
  refine toA lwE A P fun ps env1 S1 vs G1 m1 A1 r1 P1 => ?_
  by_cases hl : ps.length ≤ sizeLine
  · rw [if_pos hl] at P1
    refine ⟨by rw [← r1.length]; exact hl, fun p o hn ho => ?_⟩
    have M : Mon G1 (G1.frozen p (.frz o (.tup vs))) := (Ext.frozen hn).mon A1.sure
    exact P1 _ _ M (A1.frozen hn) (.tup (.inl ⟨.inr rfl, o, ho, upd_same⟩) (r1.mon M))
  · rw [if_neg hl] at P1
    exact P1.elim
def dDisp (d : Cd (List PV)) : Cd (List PV) := bnd d fun ps => if ps.length ≤ sizeLine then ret ps else fun _ _ => .bad
theorem mf_disp {es : List Expr} {d : Cd (List PV)} (h : MA X z es d) : MF X z (.List es pos) (dDisp d) := by
  refine (pe_lst h).imp fun σ H Q ⟨G, env, S, e, A, P⟩ => ?_
  subst e
  refine toA lwF A P fun ps env1 S1 vs G1 m1 A1 r1 P1 => ?_
  by_cases hl : ps.length ≤ sizeLine
  · rw [if_pos hl] at P1
    refine ⟨by rw [← r1.length]; exact hl, fun p hn => ?_⟩
    have M : Mon G1 (G1.fresh p (.lst vs)) := (Ext.fresh hn).mon A1.sure
    have q := A1.alone (vs := vs) hn
    exact P1 p vs _ M (A1.fresh hn) (r1.mon M) q.at_ q.nf q.nm q.n0 q.no
  · rw [if_neg hl] at P1
    exact P1.elim
/-- a new list as a value: nobody changes it from here on -/
def dFrz (d : Cd (List PV)) : Cd PV := bnd d fun xs => ret (.lst xs)
theorem me_frz {e : Expr} {d : Cd (List PV)} (h : MF X z e d) : ME X z e (dFrz d) := by
  refine PE.imp h fun σ H Q ⟨G, env, S, e, A, P⟩ => ?_
  subst e
  exact toF lwE A P fun xs env1 S1 a vs G1 m1 A1 r1 al P1 => P1 (.ref a) (G1.freeze a) mon_freeze (A1.freeze al) (.lst (.inr rfl) al.at_ (r1.mon mon_freeze))
/-- a new shared list -/
def dNew (d : Cd (List PV)) : Cd PV := bnd d fun xs => fun e s => .ok (.ref s.length) e (s ++ [.lst xs])
theorem me_new {e : Expr} {d : Cd (List PV)} (h : MF X z e d) : ME X z e (dNew d) := by
  refine PE.imp h fun σ H Q ⟨G, env, S, e, A, P⟩ => ?_
  subst e
  refine toF lwE A P fun xs env1 S1 a vs G1 m1 A1 r1 al P1 => ?_
  have M : Mon G1 ⟨G1.m ++ [a], G1.fz, G1.H, G1.T⟩ := ⟨⟨[a], rfl⟩, fun b h => ⟨h, rfl⟩⟩
  refine P1 (.ref a) ⟨G1.m ++ [a], G1.fz, G1.H, G1.T⟩ M ⟨⟨?_, ?_, fun b hb h => ?_, fun i b o h1 h2 => ?_⟩, A1.en.over M fun i b ho e => ⟨rfl, ?_, fun hb => ?_⟩, ?_, A1.mine, A1.sure⟩ (.ref ?_)
  · simp [A1.st.len]
  · exact List.nodup_append.mpr ⟨A1.st.nd, by simp, fun b hb c hc e => al.nm (by
      have : c = a := by simpa using hc
      rw [← this, ← e]; exact hb)⟩
  · rcases List.mem_append.mp hb with hb | hb
    · exact A1.st.nf b hb h
    · have : b = a := by simpa using hb
      rw [this] at h; exact al.nf h
  · by_cases hi : i < G1.m.length
    · rw [List.getElem?_append_left hi] at h1
      rw [List.getElem?_append_left (by rw [← A1.st.len]; exact hi)] at h2
      exact (A1.st.ob i b o h1 h2).mono M
    · have hi2 : i = G1.m.length := by
        have := (List.getElem?_eq_some_iff.mp h1).1
        simp at this
        omega
      subst hi2
      rw [List.getElem?_append_right (Nat.le_refl _)] at h1
      rw [A1.st.len, List.getElem?_append_right (Nat.le_refl _)] at h2
      simp at h1 h2
      subst h1 h2
      exact ⟨vs, al.at_, r1.mon M⟩
  · obtain ⟨xs', ho⟩ := ho
    obtain ⟨c, ws, e1, _, _, n1, _⟩ := A1.en.own i xs' ho
    rw [e] at e1; cases e1
    exact n1
  · rcases List.mem_append.mp hb with hb | hb
    · obtain ⟨xs', ho⟩ := ho
      obtain ⟨c, ws, e1, _, _, _, n2⟩ := A1.en.own i xs' ho
      rw [e] at e1; cases e1
      exact n2 hb
    · have : b = a := by simpa using hb
      rw [this] at e
      exact al.no i ho e
  · obtain ⟨r, q⟩ := A1.ent.pre
    exact ⟨⟨r ++ [a], by show G1.m ++ [a] = _; rw [q, List.append_assoc]⟩, fun b hb => (List.mem_append.mp hb).elim (A1.ent.new b) fun h => .inr (by
      have : b = a := by simpa using h
      rw [this]; exact al.n0), A1.ent.fz, A1.ent.fzn, A1.ent.keep, A1.ent.there, A1.ent.T, A1.ent.tb⟩
  · show (G1.m ++ [a])[S1.length]? = some a
    rw [← A1.st.len]
    simp
/-! ### operators by values -/
/-- g is served by f: values in, a value out, new things at most -/
def OpD (X : Cx) (z : Zx) (g : Value → Value → Sem Value) (f : Stt → PV → PV → Option PV) : Prop :=
  ∃ r : R2, OpR X g r ∧ ∀ (G : Wd) (S : Stt) (p q w : PV) (x y : V) (Q : VK), f S p q = some w → RepS z.K G S → Sure G → Rep z.K G p x → Rep z.K G q y →
    (∀ v G', Ext G G' → Sure G' → Rep z.K G' w v → Q v G'.H) → r x y G.H Q
theorem OpD.or {g : Value → Value → Sem Value} {f f' : Stt → PV → PV → Option PV} (h : OpD X z g f) (h' : OpD X z g f') : OpD X z g (fun S p q => (f S p q).or (f' S p q)) := by
  obtain ⟨r, o, k⟩ := h
  obtain ⟨r', o', k'⟩ := h'
  refine ⟨_, o.or o', fun G S p q w x y Q e s su rp rq hq => ?_⟩
  replace e : (f S p q).or (f' S p q) = some w := e
  cases e1 : f S p q with
  | some w' =>
    rw [e1, Option.some_or] at e
    exact .inl (k G S p q w x y Q (by rw [e1, e]) s su rp rq hq)
  | none =>
    rw [e1, Option.none_or] at e
    exact .inr (k' G S p q w x y Q e s su rp rq hq)
def dOp (f : Stt → PV → PV → Option PV) (da db : Cd PV) : Cd PV := bnd da fun p => bnd db fun q => fun e s => match f s p q with
  | some w => .ok w e s
  | none => .bad
theorem re_op {g : Value → Value → Sem Value} {f : Stt → PV → PV → Option PV} {da db : Cd PV} {r : R2} {σ : St} {H : Hp} {Q : VK}
    (k : ∀ (G : Wd) (S : Stt) (p q w : PV) (x y : V) (Q : VK), f S p q = some w → RepS z.K G S → Sure G → Rep z.K G p x → Rep z.K G q y → (∀ v G', Ext G G' → Sure G' → Rep z.K G' w v → Q v G'.H) → r x y G.H Q)
    (h : RE z (dOp f da db) σ H Q) : tOp r (RE z da) (RE z db) σ H Q := by
  obtain ⟨G, env, S, e, A, P⟩ := h
  subst e
  refine toE lwE A P fun p env1 S1 x G1 m1 A1 r1 P1 => toE lwE A1 P1 fun q env2 S2 y G2 m2 A2 r2 P2 => ?_
  cases e : f S2 p q with
  | none => simp only [e] at P2; exact P2.elim
  | some w =>
    simp only [e] at P2
    exact k G2 S2 p q w x y Q e A2.st A2.sure (r1.mon m2) r2 fun v G' xx su rv => P2 v G' (xx.mon A2.sure) (A2.ext xx su) rv
variable {a b : Expr} {da db : Cd PV}
theorem me_op {op : Operator} {f : Stt → PV → PV → Option PV} (o : OpD X z (binaryOp op) f) (ha : ME X z a da) (hb : ME X z b db) : ME X z (.BinOp a op b pos) (dOp f da db) := by
  obtain ⟨r, o, k⟩ := o
  exact (pe_op o ha hb).imp fun σ H Q h => re_op (g := binaryOp op) k h
theorem me_cmp {op : CmpOp} {f : Stt → PV → PV → Option PV} (o : OpD X z (compareOp op) f) (ha : ME X z a da) (hb : ME X z b db) (hm : behindInMarks op b = false) : ME X z (.Compare a [op] [b] pos) (dOp f da db) := by
  obtain ⟨r, o, k⟩ := o
  exact (pe_cmpR o ha hb hm).imp fun σ H Q h => re_op (g := compareOp op) k h
/-- an answer as a truth -/
def asB : PV → Option Bool
  | .bl b => some b
  | _ => none
def dB (d : Cd PV) : Cd Bool := bnd d fun p => lift (asB p)
theorem asB_rep {p : PV} {b : Bool} {K : PySem.W.Frag} {G : Wd} {v : V} (h : asB p = some b) (r : Rep K G p v) : v = .bl b := by
  cases p with
  | bl c =>
    cases r
    have : c = b := Option.some.inj h
    rw [this]
  | _ => cases h
theorem rt_b {d : Cd PV} {σ : St} {H : Hp} {Q : Bool → Hp → Prop} (h : RT z (dB d) σ H Q) : RE z d σ H fun x H' => ∃ k, x = .bl k ∧ Q k H' := by
  obtain ⟨G, env, S, e, A, P⟩ := h
  subst e
  refine toE lwT A P fun p env1 S1 x G1 m1 A1 r1 P1 => ?_
  unfold lift at P1
  cases e : asB p with
  | none => simp only [e] at P1; exact P1.elim
  | some k =>
    simp only [e] at P1
    exact ⟨k, asB_rep e r1, P1 G1 (Mon.refl _) A1⟩
theorem mt_cmp {op : CmpOp} {f : Stt → PV → PV → Option PV} (o : OpD X z (compareOp op) f) (ha : ME X z a da) (hb : ME X z b db) (hm : behindInMarks op b = false) : MT X z (.Compare a [op] [b] pos) (dB (dOp f da db)) := by
  obtain ⟨r, o, k⟩ := o
  refine (pt_cmpR o ha hb hm).imp fun σ H Q h => ?_
  have h' := rt_b h
  exact re_op (g := compareOp op) k h'
/-- a < b < c -/
def dChain (f f' : Stt → PV → PV → Option PV) (da db dc : Cd PV) : Cd PV := bnd da fun p => bnd db fun q => fun e s => match f s p q with
  | some (.bl true) => bnd dc (fun r => fun e' s' => match f' s' q r with
    | some w => .ok w e' s'
    | none => .bad) e s
  | some (.bl false) => .ok (.bl false) e s
  | _ => .bad
theorem re_chain {g g' : Value → Value → Sem Value} {f f' : Stt → PV → PV → Option PV} {da db dc : Cd PV} {r r' : R2} {σ : St} {H : Hp} {Q : VK}
    (k : ∀ (G : Wd) (S : Stt) (p q w : PV) (x y : V) (Q : VK), f S p q = some w → RepS z.K G S → Sure G → Rep z.K G p x → Rep z.K G q y → (∀ v G', Ext G G' → Sure G' → Rep z.K G' w v → Q v G'.H) → r x y G.H Q)
    (k' : ∀ (G : Wd) (S : Stt) (p q w : PV) (x y : V) (Q : VK), f' S p q = some w → RepS z.K G S → Sure G → Rep z.K G p x → Rep z.K G q y → (∀ v G', Ext G G' → Sure G' → Rep z.K G' w v → Q v G'.H) → r' x y G.H Q)
    (h : RE z (dChain f f' da db dc) σ H Q) : tChain r r' (RE z da) (RE z db) (RE z dc) σ H Q := by
  obtain ⟨G, env, S, e, A, P⟩ := h
  subst e
  refine toE lwE A P fun p env1 S1 x G1 m1 A1 r1 P1 => toE lwE A1 P1 fun q env2 S2 y G2 m2 A2 r2 P2 => ?_
  cases e : f S2 p q with
  | none => simp only [e] at P2; exact P2.elim
  | some w =>
    simp only [e] at P2
    refine k G2 S2 p q w x y _ e A2.st A2.sure (r1.mon m2) r2 fun v G' xx su rv => ?_
    have M := xx.mon A2.sure
    have A3 := A2.ext xx su
    cases w with
    | bl c =>
      cases rv
      refine ⟨c, rfl, ?_⟩
      cases c with
      | false =>
        rw [if_neg Bool.false_ne_true]
        exact P2 (.bl false) G' M A3 (.bl false)
      | true =>
        rw [if_pos rfl]
        refine toE lwE A3 (P2.later M) fun t env4 S4 u G4 m4 A4 r4 P4 => ?_
        cases e' : f' S4 q t with
        | none => simp only [e'] at P4; exact P4.elim
        | some w' =>
          simp only [e'] at P4
          exact k' G4 S4 q t w' y u Q e' A4.st A4.sure ((r2.mon M).mon m4) r4 fun v G' xx su rv => P4 v G' (xx.mon A4.sure) (A4.ext xx su) rv
    | _ => exact P2.elim
theorem me_chain {c : Expr} {op op' : CmpOp} {f f' : Stt → PV → PV → Option PV} {dc : Cd PV} (o : OpD X z (compareOp op) f) (o' : OpD X z (compareOp op') f') (ha : ME X z a da) (hb : ME X z b db) (hc : ME X z c dc)
    (hm : lastMarks [op, op'] [b, c] = false := by with_unfolding_all rfl) : ME X z (.Compare a [op, op'] [b, c] pos) (dChain f f' da db dc) := by
  obtain ⟨r, o, k⟩ := o
  obtain ⟨r', o', k'⟩ := o'
  exact (pe_chain o o' ha hb hc hm).imp fun σ H Q h => re_chain (g := compareOp op) (g' := compareOp op') k k' h
theorem mt_chain {c : Expr} {op op' : CmpOp} {f f' : Stt → PV → PV → Option PV} {dc : Cd PV} (o : OpD X z (compareOp op) f) (o' : OpD X z (compareOp op') f') (ha : ME X z a da) (hb : ME X z b db) (hc : ME X z c dc)
    (hm : lastMarks [op, op'] [b, c] = false := by with_unfolding_all rfl) : MT X z (.Compare a [op, op'] [b, c] pos) (dB (dChain f f' da db dc)) := by
  obtain ⟨r, o, k⟩ := o
  obtain ⟨r', o', k'⟩ := o'
  refine (pt_chain o o' ha hb hc hm).imp fun σ H Q h => ?_
  exact re_chain (g := compareOp op) (g' := compareOp op') k k' (rt_b h)
/-! ### truth, and, or, not, if -/
/-- a value's truth -/
def tru (S : Stt) : PV → Option Bool
  | .non => some false
  | .bl b => some b
  | .int i => some (i != 0)
  | .tup xs => some (!xs.isEmpty)
  | .lst xs => some (!xs.isEmpty)
  | .scr ns => some (!ns.isEmpty)
  | .ref n => match S[n]? with
    | some (.lst xs) => some (!xs.isEmpty)
    | none => none
  | _ => none
theorem isEmpty_rep {K : PySem.W.Frag} {G : Wd} {ps : List PV} {vs : List V} (r : RepL K G ps vs) : ps.isEmpty = vs.isEmpty := by
  cases r <;> rfl
theorem sqT_any {K : PySem.W.Frag} {H : Hp} {a : Addr} {xs : List V} (h : SqT K noH a xs) : SqT K H a xs := by
  rcases h with (h | ⟨o, h⟩) | h
  · cases h
  · cases h
  · exact .inr h
theorem Td.sq {K : PySem.W.Frag} {G : Wd} {a : Addr} {vs : List V} (h : Td K G a vs) : SqT K G.H a vs := by
  rcases h with ⟨_, o, _, h⟩ | h
  · exact .inl (.inr ⟨o, h⟩)
  · exact sqT_any h.1
theorem Td.mon {K : PySem.W.Frag} {G G1 : Wd} (M : Mon G G1) {a : Addr} {vs : List V} (h : Td K G a vs) : Td K G1 a vs := by
  rcases h with ⟨h1, o, h3, h2⟩ | h
  · obtain ⟨q1, q2⟩ := M.fz _ h1
    exact .inl ⟨q1, o, h3, q2.trans h2⟩
  · exact .inr h
theorem Rep.sqT {K : PySem.W.Frag} {G : Wd} {xs : List PV} {v : V} (r : Rep K G (.tup xs) v) : ∃ a vs, v = .ref a ∧ SqT K G.H a vs ∧ RepL K G xs vs := by
  cases r with
  | tup h r =>
    exact ⟨_, _, rfl, h.sq, r⟩
theorem Rep.sqZ {K : PySem.W.Frag} {G : Wd} {xs : List PV} {v : V} (r : Rep K G (.tuz xs) v) : ∃ a vs, v = .ref a ∧ SqT K G.H a vs ∧ RepL K G xs vs := by
  cases r with
  | tuz _ h r => exact ⟨_, _, rfl, SqT.of h, r⟩
theorem Rep.sqL {K : PySem.W.Frag} {G : Wd} {xs : List PV} {v : V} (r : Rep K G (.lst xs) v) : ∃ a vs, v = .ref a ∧ G.H a = some (.lst vs) ∧ RepL K G xs vs := by
  cases r with
  | lst _ h r => exact ⟨_, _, rfl, h, r⟩
theorem Rep.sqR {K : PySem.W.Frag} {G : Wd} {S : Stt} {n : Nat} {xs : List PV} {v : V} (r : Rep K G (.ref n) v) (s : RepS K G S) (e : S[n]? = some (.lst xs)) : ∃ a vs, v = .ref a ∧ G.m[n]? = some a ∧ G.H a = some (.lst vs) ∧ RepL K G xs vs := by
  cases r with
  | ref h =>
    obtain ⟨vs, e1, r1⟩ := s.ob _ _ _ h e
    exact ⟨_, vs, rfl, h, e1, r1⟩
theorem sqL_any {K : PySem.W.Frag} {H : Hp} {a : Addr} {xs : List V} (h : SqL K noH a xs) : SqL K H a xs := by
  rcases h with (h | ⟨o, h⟩) | h
  · cases h
  · cases h
  · exact .inr h
theorem Rep.scrM {K : PySem.W.Frag} {G : Wd} {ns : List Int} {v : V} (r : Rep K G (.scr ns) v) : ∃ a, v = .ref a ∧ ∀ G1, Mon G G1 → SqL K G1.H a (ns.map V.int) := by
  cases r with
  | scr h =>
    refine ⟨_, rfl, fun G1 M => ?_⟩
    rcases h with ⟨h1, h2⟩ | h
    · exact SqL.of_eq (M.fz _ h1).2 h2
    · exact sqL_any h
theorem Rep.sqS {K : PySem.W.Frag} {G : Wd} {ns : List Int} {v : V} (r : Rep K G (.scr ns) v) : ∃ a, v = .ref a ∧ SqL K G.H a (ns.map V.int) := by
  obtain ⟨a, e, h⟩ := r.scrM
  exact ⟨a, e, h G (Mon.refl G)⟩
theorem tru_rep {K : PySem.W.Frag} {G : Wd} {S : Stt} {p : PV} {v : V} {k : Bool} (h : tru S p = some k) (s : RepS K G S) (r : Rep K G p v) : TruV K v G.H k := by
  cases p with
  | non => cases r; exact (Option.some.inj h).symm
  | bl b => cases r; exact (Option.some.inj h).symm
  | int i => cases r; exact (Option.some.inj h).symm
  | str x => cases h
  | tup xs =>
    obtain ⟨a, vs, rfl, q, r'⟩ := r.sqT
    exact .inr (.inl ⟨vs, q, by rw [← isEmpty_rep r']; exact (Option.some.inj h).symm⟩)
  | lst xs =>
    obtain ⟨a, vs, rfl, q, r'⟩ := r.sqL
    exact .inl ⟨vs, SqL.of q, by rw [← isEmpty_rep r']; exact (Option.some.inj h).symm⟩
  | scr ns =>
    obtain ⟨a, rfl, q⟩ := r.sqS
    refine .inl ⟨_, q, ?_⟩
    rw [← Option.some.inj h]
    cases ns <;> rfl
  | ref n =>
    unfold tru at h
    cases e : S[n]? with
    | none => simp only [e] at h; cases h
    | some o =>
      cases o with
      | lst xs =>
        simp only [e] at h
        obtain ⟨a, vs, rfl, _, q, r'⟩ := r.sqR s e
        exact .inl ⟨vs, SqL.of q, by rw [← isEmpty_rep r']; exact (Option.some.inj h).symm⟩
  | raw v => cases h
  | tuz xs => cases h
def dTru (d : Cd PV) : Cd Bool := bnd d fun p => fun e s => match tru s p with
  | some b => .ok b e s
  | none => .bad
theorem mt_tru {e : Expr} {d : Cd PV} (h : ME X z e d) (hK : z.K = X.K := by rfl) (he : ∀ whole, isTrue e X.env whole = (do let v ← whole; standAt e.pos; holding [v] (truthy v)) := by intro _; rfl) : MT X z e (dTru d) := by
  refine (pt_truth h he).imp fun σ H Q ⟨G, env, S, e, A, P⟩ => ?_
  subst e
  refine toE lwT A P fun p env1 S1 x G1 m1 A1 r1 P1 => ?_
  cases e : tru S1 p with
  | none => simp only [e] at P1; exact P1.elim
  | some k =>
    simp only [e] at P1
    exact ⟨k, by rw [← hK]; exact tru_rep e A1.st r1, P1 G1 (Mon.refl _) A1⟩
def dNotT (d : Cd Bool) : Cd Bool := bnd d fun b => ret (!b)
def dAndT (d r : Cd Bool) : Cd Bool := bnd d fun b => if b = true then r else ret false
def dOrT (d r : Cd Bool) : Cd Bool := bnd d fun b => if b = true then ret true else r
theorem mt_not {d : Cd Bool} (h : MT X z a d) : MT X z (.UnaryOp .Not a pos) (dNotT d) :=
  (pt_not h).imp fun σ H Q ⟨G, env, S, e, A, P⟩ => by
    subst e
    exact toT lwT A P fun b env1 S1 G1 m1 A1 P1 => P1 G1 (Mon.refl _) A1
abbrev MW (X : Cx) (z : Zx) (e : Expr) (d : Cd Bool) : Prop := PW X e (RT z d)
theorem _root_.L2.PW.imp {e : Expr} {t t' : TT} (h : PW X e t) (i : ∀ σ H Q, t' σ H Q → t σ H Q) : PW X e t' := ⟨fun wh pins s σ H Q I q => h.run wh pins s σ H Q I (i σ H Q q)⟩
theorem mw_and1 {d : Cd Bool} (h : MT X z a d) : MW X z (.BoolOp .And [a] pos) d := pw_and1 h
theorem mw_or1 {d : Cd Bool} (h : MT X z a d) : MW X z (.BoolOp .Or [a] pos) d := pw_or1 h
theorem mw_and {rest : List Expr} {d r : Cd Bool} (h : MT X z a d) (hr : MW X z (.BoolOp .And (b :: rest) pos) r) : MW X z (.BoolOp .And (a :: b :: rest) pos) (dAndT d r) :=
  (pw_and h hr).imp fun σ H Q ⟨G, env, S, e, A, P⟩ => by
    subst e
    refine toT lwT A P fun k env1 S1 G1 m1 A1 P1 => ?_
    cases k with
    | true => exact ⟨G1, env1, S1, rfl, A1, P1⟩
    | false => exact P1 G1 (Mon.refl _) A1
theorem mw_or {rest : List Expr} {d r : Cd Bool} (h : MT X z a d) (hr : MW X z (.BoolOp .Or (b :: rest) pos) r) : MW X z (.BoolOp .Or (a :: b :: rest) pos) (dOrT d r) :=
  (pw_or h hr).imp fun σ H Q ⟨G, env, S, e, A, P⟩ => by
    subst e
    refine toT lwT A P fun k env1 S1 G1 m1 A1 P1 => ?_
    cases k with
    | true => exact P1 G1 (Mon.refl _) A1
    | false => exact ⟨G1, env1, S1, rfl, A1, P1⟩
theorem mt_w {e : Expr} {d : Cd Bool} (h : MW X z e d) : MT X z e d := PW.pt h
/-- .. as values: all but the last True or False -/
def dAndV (d r : Cd PV) : Cd PV := bnd (dB d) fun b => if b = true then r else ret (.bl false)
def dOrV (d r : Cd PV) : Cd PV := bnd (dB d) fun b => if b = true then ret (.bl true) else r
theorem me_one {op} {d : Cd PV} (h : ME X z a d) : ME X z (.BoolOp op [a] pos) d := pe_one h
theorem bnd_assoc {α β γ : Type} (d : Cd α) (k : α → Cd β) (l : β → Cd γ) : bnd (bnd d k) l = bnd d fun a => bnd (k a) l := by
  funext e s
  unfold bnd
  cases d e s <;> rfl
theorem toB {β : Type} {F : Wd → Out β → Prop} {G : Wd} {env : Env} {S : Stt} {σ : St} (L : Lw z F) {d : Cd PV} {k : Bool → Cd β} {R : VK} (A : At z.K z.G0 G S env σ) (P : F G (bnd (dB d) k env S))
    (h : ∀ b env1 S1 G1, Mon G G1 → At z.K z.G0 G1 S1 env1 σ → F G1 (k b env1 S1) → R (.bl b) G1.H) : RE z d σ G.H R := by
  unfold dB at P
  rw [bnd_assoc] at P
  refine toE L A P fun p env1 S1 v G1 m1 A1 r1 P1 => ?_
  unfold lift bnd at P1
  cases e : asB p with
  | none => simp only [e] at P1; exact (L.bad _ P1).elim
  | some c =>
    simp only [e] at P1
    rw [asB_rep e r1]
    exact h c env1 S1 G1 m1 A1 P1
theorem me_and {rest : List Expr} {d r : Cd PV} (h : ME X z a d) (hr : ME X z (.BoolOp .And (b :: rest) pos) r) : ME X z (.BoolOp .And (a :: b :: rest) pos) (dAndV d r) :=
  (pe_and h hr).imp fun σ H Q ⟨G, env, S, e, A, P⟩ => by
    subst e
    refine toB lwE A P fun k env1 S1 G1 m1 A1 P1 => ⟨k, rfl, ?_⟩
    cases k with
    | true => exact ⟨G1, env1, S1, rfl, A1, P1⟩
    | false => exact P1 (.bl false) G1 (Mon.refl _) A1 (.bl false)
theorem me_or {rest : List Expr} {d r : Cd PV} (h : ME X z a d) (hr : ME X z (.BoolOp .Or (b :: rest) pos) r) : ME X z (.BoolOp .Or (a :: b :: rest) pos) (dOrV d r) :=
  (pe_or h hr).imp fun σ H Q ⟨G, env, S, e, A, P⟩ => by
    subst e
    refine toB lwE A P fun k env1 S1 G1 m1 A1 P1 => ⟨k, rfl, ?_⟩
    cases k with
    | true => exact P1 (.bl true) G1 (Mon.refl _) A1 (.bl true)
    | false => exact ⟨G1, env1, S1, rfl, A1, P1⟩
def dNotV (d : Cd PV) : Cd PV := bnd (dB d) fun b => ret (.bl (!b))
theorem me_not {d : Cd PV} (h : ME X z a d) : ME X z (.UnaryOp .Not a pos) (dNotV d) :=
  (pe_not h).imp fun σ H Q ⟨G, env, S, e, A, P⟩ => by
    subst e
    exact toB lwE A P fun k env1 S1 G1 m1 A1 P1 => ⟨k, rfl, P1 _ G1 (Mon.refl _) A1 (.bl _)⟩
def dIfE (t : Cd Bool) (da db : Cd PV) : Cd PV := bnd t fun b => if b = true then da else db
theorem me_if {t : Expr} {d : Cd Bool} (ht : MT X z t d) (ha : ME X z a da) (hb : ME X z b db) : ME X z (.IfExp t a b pos) (dIfE d da db) :=
  (pe_ifExp ht ha hb).imp fun σ H Q ⟨G, env, S, e, A, P⟩ => by
    subst e
    refine toT lwE A P fun k env1 S1 G1 m1 A1 P1 => ?_
    cases k with
    | true => exact ⟨G1, env1, S1, rfl, A1, P1⟩
    | false => exact ⟨G1, env1, S1, rfl, A1, P1⟩
def dUn (f : PV → Option PV) (d : Cd PV) : Cd PV := bnd d fun p => lift (f p)
def pNeg : PV → Option PV
  | .int i => some (.int (-i))
  | _ => none
theorem me_neg {d : Cd PV} (h : ME X z a d) : ME X z (.UnaryOp .USub a pos) (dUn pNeg d) :=
  (pe_un un_neg h).imp fun σ H Q ⟨G, env, S, e, A, P⟩ => by
    subst e
    refine toE lwE A P fun p env1 S1 v G1 m1 A1 r1 P1 => ?_
    cases p with
    | int i =>
      cases r1
      exact ⟨i, rfl, P1 _ G1 (Mon.refl _) A1 (.int _)⟩
    | _ => exact P1.elim
end
end FS
set_option Elab.async false
set_option linter.all false
set_option maxRecDepth 100000
/-! FsStmt: statements. -/
namespace FS
open PySem PySem.Spec L2
theorem getElem?_set' {α : Type} (l : List α) (i j : Nat) (a : α) : (l.set i a)[j]? = if i = j then (if i < l.length then some a else none) else l[j]? := by
  by_cases h : i = j
  · subst h
    rw [if_pos rfl]
    by_cases hl : i < l.length
    · rw [if_pos hl, List.getElem?_set_self hl]
    · rw [if_neg hl, List.getElem?_eq_none (by rw [List.length_set]; omega)]
  · rw [if_neg h, List.getElem?_set_ne h]
section
variable {z : Zx} {G : Wd} {env : Env} {S : Stt} {σ : St} {i : Nat}
/-- a place's value is replaced by one that is not held alone -/
theorem At.setSlot0 {s : Slot} {v : Option V} (A : At z.K z.G0 G S env σ) (hs : (s = .none) ∨ (∃ p w, s = .val p ∧ v = some w ∧ Rep z.K G p w) ∨ ∃ a d w, s = .exc a d w ∧ v = some (.ref a) ∧ G.fz d ∧ ∃ u, G.H d = some (.xd [(("what" : Str), u)]) ∧ Rep z.K G w u) : At z.K z.G0 G S (env.set i s) (σ.set i v) := by
  have hno : ∀ xs, s ≠ .own xs := fun xs e => by
    rcases hs with h | ⟨p, w, h, _⟩ | ⟨a, d, w, h, _⟩ <;> (rw [h] at e; cases e)
  have own' : ∀ (j : Nat) (xs : List PV), (env.set i s)[j]? = some (.own xs) → i ≠ j ∧ env[j]? = some (.own xs) := fun j xs e => by
    rw [getElem?_set'] at e
    by_cases hj : i = j
    · rw [if_pos hj] at e
      by_cases hl : i < env.length
      · rw [if_pos hl] at e
        exact absurd (Option.some.inj e) (hno xs)
      · rw [if_neg hl] at e; cases e
    · rw [if_neg hj] at e
      exact ⟨hj, e⟩
  refine ⟨A.st, ⟨by rw [List.length_set, List.length_set]; exact A.en.len, fun j p e => ?_, fun j xs e => ?_, fun j b d w e => ?_, fun j k a h1 h2 e1 e2 => ?_⟩, A.ent, fun j a h e => ?_, A.sure⟩
  · rw [getElem?_set'] at e
    by_cases hj : i = j
    · rw [if_pos hj] at e
      by_cases hl : i < env.length
      · rw [if_pos hl] at e
        have e' := Option.some.inj e
        rcases hs with h | ⟨q, w, h, hv, r⟩ | ⟨b, d, w, h, _⟩
        · rw [h] at e'; cases e'
        · rw [h] at e'; cases e'
          exact ⟨w, by rw [getElem?_set', if_pos hj, if_pos (by rw [← A.en.len]; exact hl), hv], r⟩
        · rw [h] at e'; cases e'
      · rw [if_neg hl] at e; cases e
    · rw [if_neg hj] at e
      obtain ⟨w, e1, r⟩ := A.en.val j p e
      exact ⟨w, by rw [List.getElem?_set_ne hj]; exact e1, r⟩
  · obtain ⟨hj, e⟩ := own' j xs e
    obtain ⟨a, vs, e1, r⟩ := A.en.own j xs e
    exact ⟨a, vs, by rw [List.getElem?_set_ne hj]; exact e1, r⟩
  · rw [getElem?_set'] at e
    by_cases hj : i = j
    · rw [if_pos hj] at e
      by_cases hl : i < env.length
      · rw [if_pos hl] at e
        have e' := Option.some.inj e
        rcases hs with h | ⟨q, w, h, hv, r⟩ | ⟨b, d, w, h, hv, r⟩
        · rw [h] at e'; cases e'
        · rw [h] at e'; cases e'
        · rw [h] at e'; cases e'
          exact ⟨by rw [getElem?_set', if_pos hj, if_pos (by rw [← A.en.len]; exact hl), hv], r⟩
      · rw [if_neg hl] at e; cases e
    · rw [if_neg hj] at e
      obtain ⟨e1, r⟩ := A.en.exc j b d w e
      exact ⟨by rw [List.getElem?_set_ne hj]; exact e1, r⟩
  · obtain ⟨xs, h1⟩ := h1
    obtain ⟨ys, h2⟩ := h2
    obtain ⟨n1, h1⟩ := own' j xs h1
    obtain ⟨n2, h2⟩ := own' k ys h2
    rw [List.getElem?_set_ne n1] at e1
    rw [List.getElem?_set_ne n2] at e2
    exact A.en.dis j k a ⟨xs, h1⟩ ⟨ys, h2⟩ e1 e2
  · obtain ⟨xs, h⟩ := h
    obtain ⟨n1, h⟩ := own' j xs h
    rw [List.getElem?_set_ne n1] at e
    exact A.mine j a ⟨xs, h⟩ e
theorem At.setSlot {s : Slot} {v : Option V} (A : At z.K z.G0 G S env σ) (hs : (s = .none) ∨ ∃ p w, s = .val p ∧ v = some w ∧ Rep z.K G p w) : At z.K z.G0 G S (env.set i s) (σ.set i v) := A.setSlot0 (hs.elim .inl fun h => .inr (.inl h))
theorem At.setVal {p : PV} {v : V} (A : At z.K z.G0 G S env σ) (r : Rep z.K G p v) : At z.K z.G0 G S (env.set i (.val p)) (σ.set i (some v)) := A.setSlot (.inr ⟨p, v, rfl, rfl, r⟩)
theorem At.setOwn {xs : List PV} {a : Addr} {vs : List V} (A : At z.K z.G0 G S env σ) (r : RepL z.K G xs vs) (al : Alone z G env σ a vs) : At z.K z.G0 G S (env.set i (.own xs)) (σ.set i (some (.ref a))) := by
  have cas : ∀ (j : Nat) (ys : List PV), (env.set i (.own xs))[j]? = some (.own ys) → (i = j ∧ i < σ.length ∧ ys = xs) ∨ (i ≠ j ∧ env[j]? = some (.own ys)) := fun j ys e => by
    rw [getElem?_set'] at e
    by_cases hj : i = j
    · rw [if_pos hj] at e
      by_cases hl : i < env.length
      · rw [if_pos hl] at e
        cases e
        exact .inl ⟨hj, by rw [← A.en.len]; exact hl, rfl⟩
      · rw [if_neg hl] at e; cases e
    · rw [if_neg hj] at e
      exact .inr ⟨hj, e⟩
  refine ⟨A.st, ⟨by rw [List.length_set, List.length_set]; exact A.en.len, fun j p e => ?_, fun j ys e => ?_, fun j b d w e => ?_, fun j k b h1 h2 e1 e2 => ?_⟩, A.ent, fun j b h e => ?_, A.sure⟩
  · rw [getElem?_set'] at e
    by_cases hj : i = j
    · rw [if_pos hj] at e
      split at e <;> cases e
    · rw [if_neg hj] at e
      obtain ⟨w, e1, r⟩ := A.en.val j p e
      exact ⟨w, by rw [List.getElem?_set_ne hj]; exact e1, r⟩
  · rcases cas j ys e with ⟨rfl, hl, rfl⟩ | ⟨hj, e⟩
    · exact ⟨a, vs, by rw [List.getElem?_set_self hl], al.at_, r, al.nf, al.nm⟩
    · obtain ⟨b, ws, e1, r⟩ := A.en.own j ys e
      exact ⟨b, ws, by rw [List.getElem?_set_ne hj]; exact e1, r⟩
  · rw [getElem?_set'] at e
    by_cases hj : i = j
    · rw [if_pos hj] at e
      split at e <;> cases e
    · rw [if_neg hj] at e
      obtain ⟨e1, r⟩ := A.en.exc j b d w e
      exact ⟨by rw [List.getElem?_set_ne hj]; exact e1, r⟩
  · obtain ⟨ys, h1⟩ := h1
    obtain ⟨us, h2⟩ := h2
    rcases cas j ys h1 with ⟨rfl, hl, rfl⟩ | ⟨hj, h1⟩
    · rcases cas k us h2 with ⟨rfl, _, _⟩ | ⟨hk, h2⟩
      · rfl
      · rw [List.getElem?_set_self hl] at e1
        cases e1
        rw [List.getElem?_set_ne hk] at e2
        exact absurd e2 (al.no k ⟨us, h2⟩)
    · rw [List.getElem?_set_ne hj] at e1
      rcases cas k us h2 with ⟨rfl, hl, _⟩ | ⟨hk, h2⟩
      · rw [List.getElem?_set_self hl] at e2
        cases e2
        exact absurd e1 (al.no j ⟨ys, h1⟩)
      · rw [List.getElem?_set_ne hk] at e2
        exact A.en.dis j k b ⟨ys, h1⟩ ⟨us, h2⟩ e1 e2
  · obtain ⟨ys, h⟩ := h
    rcases cas j ys h with ⟨rfl, hl, rfl⟩ | ⟨hj, h⟩
    · rw [List.getElem?_set_self hl] at e
      cases e
      exact al.n0
    · rw [List.getElem?_set_ne hj] at e
      exact A.mine j b ⟨ys, h⟩ e
/-- the list that a place alone holds is frozen -/
theorem At.thaw {xs : List PV} (A : At z.K z.G0 G S env σ) (h : env[i]? = some (.own xs)) : ∃ a vs, σ[i]? = some (some (.ref a)) ∧ Alone z G (env.set i .none) σ a vs ∧ RepL z.K G xs vs := by
  obtain ⟨a, vs, e1, e2, r, n1, n2⟩ := A.en.own i xs h
  refine ⟨a, vs, e1, ⟨e2, n1, n2, A.mine i a ⟨xs, h⟩ e1, fun j ho e => ?_⟩, r⟩
  obtain ⟨ys, ho⟩ := ho
  rw [getElem?_set'] at ho
  by_cases hj : i = j
  · rw [if_pos hj] at ho
    split at ho <;> cases ho
  · rw [if_neg hj] at ho
    exact hj (A.en.dis i j a ⟨xs, h⟩ ⟨ys, ho⟩ e1 e)
end
/-! ### targets -/
def PostG (z : Zx) (G : Wd) (Q : St → Hp → Prop) : Out Unit → Prop
  | .ok _ env S => ∀ (σ' : St) (G' : Wd), Mon G G' → At z.K z.G0 G' S env σ' → Q σ' G'.H
  | .raise c w env S => ∀ σ', PRaise z G c w env S σ'
  | .bad => False
theorem PostG.later {z : Zx} {G G1 : Wd} {Q : St → Hp → Prop} {o : Out Unit} (h : PostG z G Q o) (M : Mon G G1) : PostG z G1 Q o := by
  cases o with
  | ok p env S => exact fun σ' G' m a => h σ' G' (M.trans m) a
  | raise c w env S => exact fun σ' => (h σ').later M
  | bad => exact h
theorem lwG {z : Zx} {Q : St → Hp → Prop} : Lw z (fun G o => PostG z G Q o) := ⟨fun _ _ _ h m => h.later m, fun _ _ _ _ _ h => h, fun _ h => h⟩
def RG (z : Zx) (d : PV → Cd Unit) : TG := fun v σ H Q => ∃ G env S p, G.H = H ∧ At z.K z.G0 G S env σ ∧ Rep z.K G p v ∧ PostG z G Q (d p env S)
def RGs (z : Zx) (d : List PV → Cd Unit) : TGs := fun vs σ H Q => ∃ G env S ps, G.H = H ∧ At z.K z.G0 G S env σ ∧ RepL z.K G ps vs ∧ PostG z G Q (d ps env S)
theorem toG {z : Zx} {β : Type} {F : Wd → Out β → Prop} {G : Wd} {env : Env} {S : Stt} {σ : St} (L : Lw z F) {d : PV → Cd Unit} {p : PV} {v : V} {k : Unit → Cd β} {R : St → Hp → Prop} (A : At z.K z.G0 G S env σ) (r : Rep z.K G p v) (P : F G (bnd (d p) k env S))
    (h : ∀ env1 S1 σ1 G1, Mon G G1 → At z.K z.G0 G1 S1 env1 σ1 → F G1 (k () env1 S1) → R σ1 G1.H) : RG z d v σ G.H R := by
  refine ⟨G, env, S, p, rfl, A, r, ?_⟩
  unfold bnd at P
  cases e : d p env S with
  | ok u env1 S1 =>
    rw [e] at P
    exact fun σ1 G1 m a => h env1 S1 σ1 G1 m a (L.later _ _ _ P m)
  | raise c w env1 S1 =>
    rw [e] at P
    exact L.rais _ _ _ _ _ P
  | bad =>
    rw [e] at P
    exact (L.bad _ P).elim
section
variable {X : Cx} {z : Zx} {pos : Pos}
abbrev MG (X : Cx) (z : Zx) (e : Expr) (d : PV → Cd Unit) : Prop := PG X e (RG z d)
abbrev MGs (X : Cx) (z : Zx) (e : List Expr) (d : List PV → Cd Unit) : Prop := PGs X e (RGs z d)
theorem _root_.L2.PG.imp {e : Expr} {t t' : TG} (h : PG X e t) (i : ∀ v σ H Q, t' v σ H Q → t v σ H Q) : PG X e t' := ⟨fun pins s σ H v u Q I r q => h.run pins s σ H v u Q I r (i v σ H Q q)⟩
theorem _root_.L2.PGs.imp {e : List Expr} {t t' : TGs} (h : PGs X e t) (i : ∀ v σ H Q, t' v σ H Q → t v σ H Q) : PGs X e t' := ⟨fun pins s σ H v u Q I r q => h.run pins s σ H v u Q I r (i v σ H Q q)⟩
def gSet (i : Nat) : PV → Cd Unit := fun p e s => .ok () (e.set i (.val p)) s
theorem mg_name (i : Nat) {x : Str} (hN : X.N.Nodup) (hi : X.N[i]? = some x := by rfl) (hx : Loc X.env.scope x := by first | exact Or.inl rfl | exact Or.inr rfl) (hf : X.fn x = true ∨ X.env.scope.names.lookup x = some .local := by first | exact .inl rfl | exact .inr rfl | assumption) : MG X z (.Name x pos) (gSet i) :=
  (pg_name hN hi hx hf).imp fun v σ H Q ⟨G, env, S, p, e, A, r, P⟩ => by
    subst e
    exact P _ G (Mon.refl G) (A.setVal r)
def gsNil : List PV → Cd Unit := fun ps => match ps with
  | [] => ret ()
  | _ => fun _ _ => .bad
def gsCons (g : PV → Cd Unit) (gs : List PV → Cd Unit) : List PV → Cd Unit := fun ps => match ps with
  | [] => fun _ _ => .bad
  | p :: r => bnd (g p) fun _ => gs r
theorem mgs_nil : MGs X z [] gsNil := pgs_nil.imp fun vs σ H Q ⟨G, env, S, ps, e, A, r, P⟩ => by
  subst e
  cases r with
  | nil => exact ⟨rfl, P σ G (Mon.refl G) A⟩
  | cons _ _ => exact P.elim
theorem mgs_cons {e : Expr} {es : List Expr} {g : PV → Cd Unit} {gs : List PV → Cd Unit} (h : MG X z e g) (hr : MGs X z es gs) (hs : (assignEach (e :: es) X.env).map (·.2) = assign e X.env :: (assignEach es X.env).map (·.2) := by rfl) : MGs X z (e :: es) (gsCons g gs) :=
  (pgs_cons h hr hs).imp fun vs σ H Q ⟨G, env, S, ps, e, A, r, P⟩ => by
    subst e
    cases r with
    | nil => exact P.elim
    | cons r0 rr => exact ⟨_, _, rfl, toG lwG A r0 P fun env1 S1 σ1 G1 m1 A1 P1 => ⟨G1, env1, S1, _, rfl, A1, rr.mon m1, P1⟩⟩
def gTupD (n : Nat) (gs : List PV → Cd Unit) : PV → Cd Unit := fun p => match p with
  | .tup ps => if ps.length = n then gs ps else fun _ _ => .bad
  | .tuz ps => if ps.length = n then gs ps else fun _ _ => .bad
  | _ => fun _ _ => .bad
theorem mg_tup {es : List Expr} {k : Nat} {gs : List PV → Cd Unit} {n : Nat} (h : MGs X z es gs) (hK : z.K = X.K := by rfl) (hc : X.calm = true := by rfl) (hn : (assignEach es X.env).length = n := by rfl) (hst : (assignEach es X.env).findIdx? (·.1) = none := by rfl) : MG X z (.Tuple es k pos) (gTupD n gs) :=
  (pg_tup hc h hn hst).imp fun v σ H Q ⟨G, env, S, p, e, A, r, P⟩ => by
    subst e
    cases p with
    | tup ps =>
      obtain ⟨a, vs, rfl, q, rr⟩ := r.sqT
      unfold gTupD at P
      by_cases hl : ps.length = n
      · simp only [if_pos hl] at P
        exact ⟨a, vs, rfl, by rw [← hK]; exact q, by rw [← rr.length]; exact hl, G, env, S, ps, rfl, A, rr, P⟩
      · simp only [if_neg hl] at P
        exact P.elim
    | tuz ps =>
      obtain ⟨a, vs, rfl, q, rr⟩ := r.sqZ
      unfold gTupD at P
      by_cases hl : ps.length = n
      · simp only [if_pos hl] at P
        exact ⟨a, vs, rfl, by rw [← hK]; exact q, by rw [← rr.length]; exact hl, G, env, S, ps, rfl, A, rr, P⟩
      · simp only [if_neg hl] at P
        exact P.elim
    | _ => exact P.elim
end
/-! ### statements -/
section
variable {X : Cx} {z : Zx} {pos pos' : Pos}
abbrev MS (X : Cx) (z : Zx) (st : Stmt) (d : Cd Flw) : Prop := PS X st (RS z d)
abbrev MSs (X : Cx) (z : Zx) (st : List Stmt) (d : Cd Flw) : Prop := PSs X st (RS z d)
def nxt : Cd Flw := ret .next
/-- d, then (if it goes on) r -/
def dSeq (d r : Cd Flw) : Cd Flw := bnd d fun f => match f with
  | .next => r
  | f => ret f
theorem mss_nil : MSs X z [] nxt := PSs.imp pss_nil fun D σ H ⟨G, env, S, e, A, P⟩ => by
  subst e
  exact P σ G (Mon.refl G) A
theorem mss_one {st : Stmt} {d : Cd Flw} (h : MS X z st d) : MSs X z [st] d := pss_one h
theorem toS {β : Type} {z : Zx} {F : Wd → Out β → Prop} {G : Wd} {env : Env} {S : Stt} {σ : St} (L : Lw z F) {d : Cd Flw} {k : Flw → Cd β} {D : Ends} (A : At z.K z.G0 G S env σ) (P : F G (bnd d k env S))
    (hn : ∀ env1 S1 σ1 G1, Mon G G1 → At z.K z.G0 G1 S1 env1 σ1 → F G1 (k .next env1 S1) → D.nx σ1 G1.H)
    (hb : ∀ env1 S1 σ1 G1, Mon G G1 → At z.K z.G0 G1 S1 env1 σ1 → F G1 (k .brk env1 S1) → D.bk σ1 G1.H)
    (hc : ∀ env1 S1 σ1 G1, Mon G G1 → At z.K z.G0 G1 S1 env1 σ1 → F G1 (k .cont env1 S1) → D.ct σ1 G1.H)
    (hr : ∀ p v env1 S1 σ1 G1, Mon G G1 → At z.K z.G0 G1 S1 env1 σ1 → Rep z.K G1 p v → F G1 (k (.ret p) env1 S1) → D.rt v G1.H) : RS z d D σ G.H := by
  refine ⟨G, env, S, rfl, A, ?_⟩
  unfold bnd at P
  cases e : d env S with
  | ok f env1 S1 =>
    rw [e] at P
    cases f with
    | next => exact fun σ1 G1 m a => hn env1 S1 σ1 G1 m a (L.later _ _ _ P m)
    | brk => exact fun σ1 G1 m a => hb env1 S1 σ1 G1 m a (L.later _ _ _ P m)
    | cont => exact fun σ1 G1 m a => hc env1 S1 σ1 G1 m a (L.later _ _ _ P m)
    | ret p => exact fun v σ1 G1 m a r => hr p v env1 S1 σ1 G1 m a r (L.later _ _ _ P m)
  | raise c w env1 S1 =>
    rw [e] at P
    exact L.rais _ _ _ _ _ P
  | bad =>
    rw [e] at P
    exact (L.bad _ P).elim
theorem mss_cons {st : Stmt} {rest : List Stmt} {d r : Cd Flw} (h : MS X z st d) (hr : MSs X z rest r) : MSs X z (st :: rest) (dSeq d r) :=
  PSs.imp (pss_cons h hr) fun D σ H ⟨G, env, S, e, A, P⟩ => by
    subst e
    exact toS lwS (D := { D with nx := RS z r D }) A P (fun env1 S1 σ1 G1 m A1 P1 => ⟨G1, env1, S1, rfl, A1, P1⟩) (fun env1 S1 σ1 G1 m A1 P1 => P1 σ1 G1 (Mon.refl _) A1) (fun env1 S1 σ1 G1 m A1 P1 => P1 σ1 G1 (Mon.refl _) A1)
      (fun p v env1 S1 σ1 G1 m A1 r1 P1 => P1 v σ1 G1 (Mon.refl _) A1 r1)
variable {e : Expr} {d : Cd PV}
def dDrop (d : Cd PV) : Cd Flw := bnd d fun _ => nxt
theorem ms_expr (he : ME X z e d) (hs : swapsWith e none pos.line X.env = pure false := by rfl) : MS X z (.Expr e pos) (dDrop d) := PS.imp (ps_expr he hs) fun D σ H ⟨G, env, S, e, A, P⟩ => by
  subst e
  exact toE lwS A P fun p env1 S1 v G1 m1 A1 r1 P1 => P1 σ G1 (Mon.refl _) A1
def dRet (d : Cd PV) : Cd Flw := bnd d fun p => ret (.ret p)
theorem ms_ret (he : ME X z e d) : MS X z (.Return (some e) pos) (dRet d) := PS.imp (ps_ret he) fun D σ H ⟨G, env, S, e, A, P⟩ => by
  subst e
  exact toE lwS A P fun p env1 S1 v G1 m1 A1 r1 P1 => P1 v σ G1 (Mon.refl _) A1 r1
def dIf (t : Cd Bool) (a b : Cd Flw) : Cd Flw := bnd t fun k => if k = true then a else b
theorem ms_if {c : Expr} {a b : List Stmt} {t : Cd Bool} {da db : Cd Flw} (hc : MT X z c t) (ha : MSs X z a da) (hb : MSs X z b db) : MS X z (.If c a b pos) (dIf t da db) := PS.imp (ps_if hc ha hb) fun D σ H ⟨G, env, S, e, A, P⟩ => by
  subst e
  refine toT lwS A P fun k env1 S1 G1 m1 A1 P1 => ?_
  cases k with
  | true => exact ⟨G1, env1, S1, rfl, A1, P1⟩
  | false => exact ⟨G1, env1, S1, rfl, A1, P1⟩
/-- target = e -/
def dAsg (d : Cd PV) (g : PV → Cd Unit) : Cd Flw := bnd d fun p => bnd (g p) fun _ => nxt
theorem ms_asg {tg : Expr} {g : PV → Cd Unit} (he : ME X z e d) (hg : MG X z tg g) (hs : swapsWithSole [tg] e pos.line X.env = pure false := by rfl) (hw : swappedStores [tg] e X.env = pure none := by rfl)
    (h1 : (assignEach [tg] X.env).map (·.2) = [assign tg X.env] := by rfl) : MS X z (.Assign [tg] e pos) (dAsg d g) := PS.imp (ps_asg he hg hs hw h1) fun D σ H ⟨G, env, S, e, A, P⟩ => by
  subst e
  exact toE lwS A P fun p env1 S1 v G1 m1 A1 r1 P1 => toG lwS A1 r1 P1 fun env2 S2 σ2 G2 m2 A2 P2 => P2 σ2 G2 (Mon.refl _) A2
/-- name = e -/
def dSet (i : Nat) (d : Cd PV) : Cd Flw := bnd d fun p => fun e s => .ok .next (e.set i (.val p)) s
theorem ms_set (i : Nat) {x : Str} (hN : X.N.Nodup) (he : ME X z e d) (hi : X.N[i]? = some x := by rfl) (hx : Loc X.env.scope x := by first | exact Or.inl rfl | exact Or.inr rfl) (hs : swapsWith e (some (.Name x pos')) pos.line X.env = pure false := by rfl)
    (hf : X.fn x = true ∨ X.env.scope.names.lookup x = some .local := by first | exact .inl rfl | exact .inr rfl | assumption) : MS X z (.Assign [.Name x pos'] e pos) (dSet i d) := PS.imp (ps_set hN hi hx he hs hf) fun D σ H ⟨G, env, S, e, A, P⟩ => by
  subst e
  exact toE lwS A P fun p env1 S1 v G1 m1 A1 r1 P1 => P1 _ G1 (Mon.refl _) (A1.setVal r1)
/-- name = a new list that the name alone holds -/
def dOwn (i : Nat) (d : Cd (List PV)) : Cd Flw := bnd d fun xs => fun e s => .ok .next (e.set i (.own xs)) s
/-- a, b = e1, e2 -/
def dPar (i j : Nat) (d : Cd (List PV)) : Cd Flw := bnd d fun ps => match ps with
  | [p, q] => fun e s => .ok .next ((e.set i (.val p)).set j (.val q)) s
  | _ => fun _ _ => .bad
/-! ### for -/
/-- J walks ps, as long as the frozen things stand -/
structure Enum (K : PySem.W.Frag) (J : It) (G : Wd) (ps : List PV) : Prop where
  stop : ∀ i G1, Mon G G1 → ps.length ≤ i → J.stop i G1.H
  go : ∀ (i : Nat) (p : PV) (G1 : Wd), Mon G G1 → Sure G1 → ps[i]? = some p → J.go i G1.H ∧ ∀ x H', J.yld i G1.H x H' → ∃ G2, G2.H = H' ∧ Ext G1 G2 ∧ Sure G2 ∧ Rep K G2 p x
def PostI (z : Zx) (G : Wd) (σ : St) (R : It → Hp → Prop) : Out (List PV) → Prop
  | .ok ps env S => ∀ (J : It) (G' : Wd), Mon G G' → At z.K z.G0 G' S env σ → Enum z.K J G' ps → R J G'.H
  | .raise c w env S => ∀ σ', PRaise z G c w env S σ'
  | .bad => False
theorem PostI.later {z : Zx} {G G1 : Wd} {σ : St} {R : It → Hp → Prop} {o : Out (List PV)} (h : PostI z G σ R o) (M : Mon G G1) : PostI z G1 σ R o := by
  cases o with
  | ok p env S => exact fun J G' m => h J G' (M.trans m)
  | raise c w env S => exact fun σ' => (h σ').later M
  | bad => exact h
theorem lwI {z : Zx} {σ : St} {R : It → Hp → Prop} : Lw z (fun G o => PostI z G σ R o) := ⟨fun _ _ _ h m => h.later m, fun _ _ _ _ _ h => h, fun _ h => h⟩
def RI (z : Zx) (d : Cd (List PV)) : TI := fun σ H R => ∃ G env S, G.H = H ∧ At z.K z.G0 G S env σ ∧ PostI z G σ R (d env S)
abbrev MI (X : Cx) (z : Zx) (tg e : Expr) (d : Cd (List PV)) : Prop := PI X tg e (RI z d)
theorem _root_.L2.PI.imp {tg e : Expr} {t t' : TI} (h : PI X tg e t) (i : ∀ σ H R, t' σ H R → t σ H R) : PI X tg e t' := ⟨fun pins s σ H R I q => h.run pins s σ H R I (i σ H R q)⟩
theorem _root_.L2.PI.or {tg e : Expr} {t t' : TI} (h : PI X tg e t) (h' : PI X tg e t') : PI X tg e (fun σ H R => t σ H R ∨ t' σ H R) := ⟨fun pins s σ H R I q => q.elim (h.run pins s σ H R I) (h'.run pins s σ H R I)⟩
theorem toI {β : Type} {z : Zx} {F : Wd → Out β → Prop} {G : Wd} {env : Env} {S : Stt} {σ : St} (L : Lw z F) {d : Cd (List PV)} {k : List PV → Cd β} {R : It → Hp → Prop} (A : At z.K z.G0 G S env σ) (P : F G (bnd d k env S))
    (h : ∀ ps env1 S1 J G1, Mon G G1 → At z.K z.G0 G1 S1 env1 σ → Enum z.K J G1 ps → F G1 (k ps env1 S1) → R J G1.H) : RI z d σ G.H R := by
  refine ⟨G, env, S, rfl, A, ?_⟩
  unfold bnd at P
  cases e : d env S with
  | ok ps env1 S1 =>
    rw [e] at P
    exact fun J G1 m a en => h ps env1 S1 J G1 m a en (L.later _ _ _ P m)
  | raise c w env1 S1 =>
    rw [e] at P
    exact L.rais _ _ _ _ _ P
  | bad =>
    rw [e] at P
    exact (L.bad _ P).elim
def dForL (g : PV → Cd Unit) (b : Cd Flw) : List PV → Cd Flw
  | [] => nxt
  | p :: ps => bnd (g p) fun _ => bnd b fun f => match f with
    | .next => dForL g b ps
    | .cont => dForL g b ps
    | .brk => nxt
    | .ret v => ret (.ret v)
def dFor (d : Cd (List PV)) (g : PV → Cd Unit) (b : Cd Flw) : Cd Flw := bnd d (dForL g b)
theorem for_go {J : It} {G0 : Wd} {ps : List PV} {g : PV → Cd Unit} {b : Cd Flw} {D : Ends} (en : Enum z.K J G0 ps) {σ : St} {env : Env} {S : Stt} (A : At z.K z.G0 G0 S env σ) (P : PostS z G0 D (dForL g b ps env S)) :
    ∃ W : Nat → Nat → St → Hp → Prop, (∃ m, W 0 m σ G0.H) ∧ ∀ i m σ H, W i m σ H →
      (J.stop i H ∧ D.nx σ H) ∨ (J.go i H ∧ ∃ N : St → Hp → Prop, (∀ σ' H', N σ' H' → ∃ m', m' < m ∧ W (i + 1) m' σ' H') ∧ ∀ x H', J.yld i H x H' → RG z g x σ H' fun σ2 H2 => RS z b { D with nx := N, ct := N, bk := D.nx } σ2 H2) := by
  refine ⟨fun i m σ H => m = ps.length - i ∧ i ≤ ps.length ∧ ∃ G1 env S, G1.H = H ∧ Mon G0 G1 ∧ At z.K z.G0 G1 S env σ ∧ PostS z G1 D (dForL g b (ps.drop i) env S), ⟨ps.length, by simp, Nat.zero_le _, G0, env, S, rfl, Mon.refl _, A, by simpa using P⟩, ?_⟩
  rintro i m σ H ⟨rfl, hi, G1, env, S, rfl, M, A, P⟩
  by_cases hl : i < ps.length
  · have e : ps.drop i = ps[i] :: ps.drop (i + 1) := List.drop_eq_getElem_cons hl
    rw [e] at P
    obtain ⟨q1, q2⟩ := en.go i ps[i] G1 M A.sure (by simp [hl])
    refine .inr ⟨q1, fun σ' H' => ∃ G1 env S, G1.H = H' ∧ Mon G0 G1 ∧ At z.K z.G0 G1 S env σ' ∧ PostS z G1 D (dForL g b (ps.drop (i + 1)) env S), fun σ' H' h => ⟨ps.length - (i + 1), by omega, rfl, hl, h⟩, fun x H' y => ?_⟩
    obtain ⟨G2, rfl, x2, s2, r2⟩ := q2 x H' y
    have m2 := x2.mon A.sure
    refine toG lwS (A.ext x2 s2) r2 (P.later m2) fun env3 S3 σ3 G3 m3 A3 P3 => ?_
    refine toS lwS A3 P3 (fun env4 S4 σ4 G4 m4 A4 P4 => ?_) (fun env4 S4 σ4 G4 m4 A4 P4 => P4 σ4 G4 (Mon.refl _) A4) (fun env4 S4 σ4 G4 m4 A4 P4 => ?_) fun p v env4 S4 σ4 G4 m4 A4 r4 P4 => P4 v σ4 G4 (Mon.refl _) A4 r4
    · exact ⟨G4, env4, S4, rfl, ((M.trans m2).trans m3).trans m4, A4, P4⟩
    · exact ⟨G4, env4, S4, rfl, ((M.trans m2).trans m3).trans m4, A4, P4⟩
  · have e : ps.drop i = [] := List.drop_eq_nil_of_le (by omega)
    rw [e] at P
    exact .inl ⟨en.stop i G1 M (by omega), P σ G1 (Mon.refl _) A⟩
theorem ms_for {tg iter : Expr} {body : List Stmt} {d : Cd (List PV)} {g : PV → Cd Unit} {b : Cd Flw} (hp : PassesOwn (model X.prog X.w) X.A X.env X.xe) (hi : MI X z tg iter d) (hg : MG X z tg g) (hb : MSs X z body b) (hc : X.calm = true := by rfl)
    (hs : ∀ x, foldedSetIterable iter X.env x = pure x := by intro _; rfl) : MS X z (.For tg iter body [] pos) (dFor d g b) := PS.imp (ps_for hp hc hi hg hb hs) fun D σ H ⟨G, env, S, e, A, P⟩ => by
  subst e
  exact toI lwS A P fun ps env1 S1 J G1 m1 A1 en P1 => for_go en A1 P1
/-! ### while -/
def iterW (c : Cd Bool) (b : Cd Flw) : Nat → Cd Flw
  | 0 => fun _ _ => .bad
  | n + 1 => bnd c fun k => if k = true then bnd b fun f => match f with
    | .next => iterW c b n
    | .cont => iterW c b n
    | .brk => nxt
    | .ret v => ret (.ret v)
    else nxt
theorem iterW_succ (c : Cd Bool) (b : Cd Flw) : ∀ (n : Nat) (e : Env) (s : Stt), iterW c b n e s ≠ .bad → iterW c b (n + 1) e s = iterW c b n e s
  | 0, _, _, h => absurd rfl h
  | n + 1, e, s, h => by
    have ih := iterW_succ c b n
    generalize hm : n + 1 = m at ih
    unfold iterW
    subst hm
    show bnd c _ e s = bnd c _ e s
    unfold iterW at h
    unfold bnd at h ⊢
    cases hc : c e s with
    | raise => rfl
    | bad => rfl
    | ok k e1 s1 =>
      rw [hc] at h
      simp only [Out.bind] at h ⊢
      cases k with
      | false => rfl
      | true =>
        simp only [if_true] at h ⊢
        cases hb : b e1 s1 with
        | raise => rfl
        | bad => rfl
        | ok f e2 s2 =>
          rw [hb] at h
          cases f with
          | next => exact ih e2 s2 h
          | cont => exact ih e2 s2 h
          | brk => rfl
          | ret v => rfl
theorem iterW_le (c : Cd Bool) (b : Cd Flw) {n : Nat} {e : Env} {s : Stt} (h : iterW c b n e s ≠ .bad) : ∀ {m : Nat}, n ≤ m → iterW c b m e s = iterW c b n e s := by
  intro m hm
  induction hm with
  | refl => rfl
  | step _ ih => rw [iterW_succ _ _ _ _ _ (by rw [ih]; exact h), ih]
open Classical in
noncomputable def dWhile (c : Cd Bool) (b : Cd Flw) : Cd Flw := fun e s => if h : ∃ n, iterW c b n e s ≠ .bad then iterW c b (Classical.choose h) e s else .bad
theorem dWhile_of {c : Cd Bool} {b : Cd Flw} {n : Nat} {e : Env} {s : Stt} {r : Out Flw} (h : iterW c b n e s = r) (hr : r ≠ .bad) : dWhile c b e s = r := by
  have hx : ∃ n, iterW c b n e s ≠ .bad := ⟨n, by rw [h]; exact hr⟩
  unfold dWhile
  rw [dif_pos hx]
  have h1 := Classical.choose_spec hx
  rcases Nat.le_total n (Classical.choose hx) with q | q
  · rw [iterW_le c b (by rw [h]; exact hr) q, h]
  · rw [← iterW_le c b h1 q, h]
theorem dWhile_some {c : Cd Bool} {b : Cd Flw} {e : Env} {s : Stt} : dWhile c b e s = .bad ∨ ∃ n, dWhile c b e s = iterW c b n e s := by
  unfold dWhile
  by_cases h : ∃ n, iterW c b n e s ≠ .bad
  · rw [dif_pos h]
    exact .inr ⟨_, rfl⟩
  · rw [dif_neg h]
    exact .inl rfl
theorem ms_while {c : Expr} {body : List Stmt} {t : Cd Bool} {b : Cd Flw} (hp : PassesOwn (model X.prog X.w) X.A X.env X.xe) (hc : MT X z c t) (hb : MSs X z body b) : MS X z (.While c body [] pos) (dWhile t b) := PS.imp (ps_while hp hc hb) fun D σ H ⟨G, env, S, e, A, P⟩ => by
  subst e
  rcases dWhile_some (c := t) (b := b) (e := env) (s := S) with e | ⟨n, e⟩
  · rw [e] at P; exact P.elim
  · rw [e] at P
    refine ⟨fun m σ H => ∃ G env S, G.H = H ∧ At z.K z.G0 G S env σ ∧ PostS z G D (iterW t b m env S), ⟨n, G, env, S, rfl, A, P⟩, ?_⟩
    rintro m σ H ⟨G, env, S, rfl, A, P⟩
    cases m with
    | zero => exact P.elim
    | succ m =>
      unfold iterW at P
      refine toT lwS A P fun k env1 S1 G1 m1 A1 P1 => ?_
      cases k with
      | false => exact P1 σ G1 (Mon.refl _) A1
      | true =>
        rw [if_pos rfl] at P1 ⊢
        refine ⟨fun σ H => ∃ G env S, G.H = H ∧ At z.K z.G0 G S env σ ∧ PostS z G D (iterW t b m env S), fun σ' H' h => ⟨m, Nat.lt_succ_self _, h⟩, ?_⟩
        exact toS lwS A1 P1 (fun env4 S4 σ4 G4 m4 A4 P4 => ⟨G4, env4, S4, rfl, A4, P4⟩) (fun env4 S4 σ4 G4 m4 A4 P4 => P4 σ4 G4 (Mon.refl _) A4) (fun env4 S4 σ4 G4 m4 A4 P4 => ⟨G4, env4, S4, rfl, A4, P4⟩)
          fun p v env4 S4 σ4 G4 m4 A4 r4 P4 => P4 v σ4 G4 (Mon.refl _) A4 r4
end
end FS
set_option Elab.async false
set_option linter.all false
set_option maxRecDepth 100000
/-! FsDef: defs, calls, raise. -/
namespace FS
open PySem PySem.Spec L2
inductive Res where
  | ok (p : PV) (s : Stt)
  | raise (c : Str) (w : PV) (s : Stt)
  | bad
def PostD (K : PySem.W.Frag) (mg : Str → Option Value) (G : Wd) (Q : VK) (E : XK) : Res → Prop
  | .ok p S => ∀ (v : V) (G' : Wd), Ent G G' → Mon G G' → RepS K G' S → Sure G' → Rep K G' p v → Q v G'.H
  | .raise c w S => ∀ (cls : Value) (d : Addr) (v : V) (G' : Wd), Ent G G' → Mon G G' → RepS K G' S → Sure G' → mg c = some cls → Nu G.H d → G'.H d = some (.xd [(("what" : Str), v)]) → Rep K G' w v → E cls (some d) G'.H
  | .bad => False
/-- the promise of a def: it does what den says -/
def spD (K : PySem.W.Frag) (mg : Str → Option Value) (n : Nat) (den : List PV → Stt → Res) : Sp := fun vs H Q E =>
  ∃ G ps S, G.H = H ∧ RepL K G ps vs ∧ RepS K G S ∧ Sure G ∧ vs.length = n ∧ PostD K mg G Q E (den ps S)
/-- a body's value -/
def fin : Out Flw → Res
  | .ok .next _ s => .ok .non s
  | .ok (.ret p) _ s => .ok p s
  | .raise c w _ s => .raise c w s
  | _ => .bad
/-- a def of n names, k of them parameters -/
def runD (n k : Nat) (d : Cd Flw) (ps : List PV) (S : Stt) : Res := if ps.length = k then fin (d (ps.map Slot.val ++ List.replicate (n - k) Slot.none) S) else .bad
section
variable {K : PySem.W.Frag}
theorem start_rep {G : Wd} {S : Stt} {ps : List PV} {vs : List V} {N : List Str} (r : RepL K G ps vs) (s : RepS K G S) (su : Sure G) :
    At K G G S (ps.map Slot.val ++ List.replicate (N.length - ps.length) Slot.none) (L2.start N vs) := by
  have hl := r.length
  have no : ∀ (i : Nat) (xs : List PV), (ps.map Slot.val ++ List.replicate (N.length - ps.length) Slot.none)[i]? ≠ some (.own xs) := fun i xs e => by
    by_cases hi : i < ps.length
    · rw [List.getElem?_append_left (by simpa using hi), List.getElem?_map] at e
      cases q : ps[i]? with
      | none => rw [q] at e; cases e
      | some p => rw [q] at e; cases e
    · rw [List.getElem?_append_right (by simpa using hi)] at e
      have := List.mem_of_getElem? e
      have := List.eq_of_mem_replicate this
      cases this
  have no2 : ∀ (i : Nat) (a d : Addr) (w : PV), (ps.map Slot.val ++ List.replicate (N.length - ps.length) Slot.none)[i]? ≠ some (.exc a d w) := fun i a d w e => by
    by_cases hi : i < ps.length
    · rw [List.getElem?_append_left (by simpa using hi), List.getElem?_map] at e
      cases q : ps[i]? with
      | none => rw [q] at e; cases e
      | some p => rw [q] at e; cases e
    · rw [List.getElem?_append_right (by simpa using hi)] at e
      have := List.mem_of_getElem? e
      have := List.eq_of_mem_replicate this
      cases this
  refine ⟨s, ⟨?_, fun i p e => ?_, fun i xs e => absurd e (no i xs), fun i a d w e => absurd e (no2 i a d w), fun i j a h => absurd h.choose_spec (no i _)⟩, .refl G, fun i a h => absurd h.choose_spec (no i _), su⟩
  · unfold L2.start
    simp [hl]
  · by_cases hi : i < ps.length
    · rw [List.getElem?_append_left (by simpa using hi), List.getElem?_map] at e
      cases q : ps[i]? with
      | none => rw [q] at e; cases e
      | some p' =>
        rw [q] at e
        have e' := Option.some.inj e
        cases e'
        obtain ⟨v, e1, r1⟩ := r.get q
        refine ⟨v, ?_, r1⟩
        unfold L2.start
        rw [List.getElem?_append_left (by simpa [← hl] using hi), List.getElem?_map, e1]
        rfl
    · rw [List.getElem?_append_right (by simpa using hi)] at e
      have := List.mem_of_getElem? e
      have := List.eq_of_mem_replicate this
      cases this
end
section
variable {P : Program} {w : World} {K : PySem.W.Frag} {mg : Str → Option Value} {base : Heap}
/-- the surroundings of a def's body -/
abbrev zOf (K : PySem.W.Frag) (mg : Str → Option Value) (G : Wd) (E : XK) : Zx := ⟨K, mg, G, fun cls d _ H => E cls d H⟩
/-- THE RULE for a def -/
theorem def_ok {x qual : Str} {st : Stmt} {f : Addr} {fd : FuncData} {N ps : List Str} {k : Nat} {d : Cd Flw} (F : Fun K x qual st f fd) (S : FnScope N ps (defScope st))
    (hbody : ∀ (cdv : Value) (A : Around) (outer : List PySem.Env) (s : Shared) (H : Hp) (E : XK) (G : Wd), Room k (A.deeper (PyProof.Rows.envOfC qual (defScope st) s.heap.objs.size f cdv)) →
      MSs (cxOf (L2.CX P w) P w K mg base N qual (defScope st) f cdv A outer s H E) (zOf K mg G E) (defBody st) d) :
    FnOk P w K mg base (L2.CX P w) (k + 1) f fd ps (spD K mg ps.length (runD N.length ps.length d)) := by
  refine F.okX S (fun vs H Q E h => ?_) fun cdv A outer s H vs Q E hr h => ?_
  · obtain ⟨_, _, _, _, _, _, _, e, _⟩ := h
    exact e
  · obtain ⟨G, qs, S', e, r, rs, su, hl, hp⟩ := h
    subst e
    refine ⟨_, hbody cdv A outer s _ E G hr, G, qs.map Slot.val ++ List.replicate (N.length - qs.length) Slot.none, S', rfl, start_rep r rs su, ?_⟩
    have hq : qs.length = ps.length := by rw [r.length, hl]
    unfold runD at hp
    rw [if_pos hq, ← hq] at hp
    cases e : d (qs.map Slot.val ++ List.replicate (N.length - qs.length) Slot.none) S' with
    | bad => rw [e] at hp; exact hp.elim
    | raise c w' e1 s1 =>
      rw [e] at hp
      exact fun σ' G' cls dd v m A1 h1 h0 h2 h3 => hp cls dd v G' A1.ent m A1.st A1.sure h1 h0 h2 h3
    | ok f e1 s1 =>
      rw [e] at hp
      cases f with
      | next => exact fun σ' G' m A1 => hp .non G' A1.ent m A1.st A1.sure .non
      | ret p => exact fun v σ' G' m A1 r1 => hp v G' A1.ent m A1.st A1.sure r1
      | brk => exact hp.elim
      | cont => exact hp.elim
/-- a def of the module, by its name -/
structure Df (P : Program) (w : World) (K : PySem.W.Frag) (mg : Str → Option Value) (base : Heap) (k : Nat) (x : Str) (n : Nat) (den : List PV → Stt → Res) : Prop where
  ex : ∃ (f : Addr) (fd : FuncData) (ps : List Str), FnOk P w K mg base (L2.CX P w) k f fd ps (spD K mg n den) ∧ mg x = some (.ref f) ∧ PySem.W.keepIn K (.ref f) = true ∧ Binds K fd ps []
end
/-! ### calls -/
section
variable {X : Cx} {z : Zx} {pos p : Pos}
def dCall (n : Nat) (den : List PV → Stt → Res) (da : Cd (List PV)) : Cd PV := bnd da fun ps => if ps.length = n then fun e s => match den ps s with
  | .ok p s' => .ok p e s'
  | .raise c w s' => .raise c w e s'
  | .bad => .bad
  else fun _ _ => .bad
theorem me_call {k j n : Nat} {x : Str} {den : List PV → Stt → Res} {e : Expr} {es : List Expr} {da : Cd (List PV)} (D : Df X.prog X.w X.K X.mg X.base k x n den) (hr : Room j X.A) (tk : Takes X z.W) (ha : MA X z (e :: es) da) (hkj : k ≤ j := by decide) (hK : z.K = X.K := by rfl) (hmg : z.mg = X.mg := by rfl) (hg : Gl X x := by rfl)
    (hdb : (x == ("__debug__" : Str)) = false := by decide) (he : starEach (e :: es) X.env = (false, eval e X.env) :: starEach es X.env := by rfl) (hpl : (backTo pos (starEach es X.env)).any (·.1) = false := by rfl) :
    ME X z (.Call (.Name x p) (e :: es) [] pos) (dCall n den da) := by
  obtain ⟨f, fd, ps, F, hm, hk, hb⟩ := D.ex
  refine (pe_callSD F (hr.mono hkj) hg hm hk hb .nil (passAt tk) ha hdb he hpl).imp fun σ H Q ⟨G, env, S, e, A, P⟩ => ?_
  subst e
  refine toA lwE A P fun qs env1 S1 vs G1 m1 A1 r1 P1 => ?_
  by_cases hl : qs.length = n
  · rw [if_pos hl] at P1
    rw [List.append_nil]
    rw [← hK, ← hmg]
    refine ⟨G1, qs, S1, rfl, r1, A1.st, A1.sure, by rw [← r1.length]; exact hl, ?_⟩
    cases e : den qs S1 with
    | bad => simp only [e] at P1; exact P1.elim
    | ok p S2 =>
      simp only [e] at P1
      exact fun v G' en m s su r => P1 v G' m (A1.call en m s su) r
    | raise c w S2 =>
      simp only [e] at P1
      exact fun cls d v G' en m s su h1 h0 h2 r => P1 σ G' cls d v m (A1.call en m s su) h1 (A1.ent.there d h0) h2 r
  · rw [if_neg hl] at P1
    exact P1.elim
end
/-! ### raise -/
/-- __init__ of the base class of the errors: self.what = what -/
def spInit (K : PySem.W.Frag) : Sp := fun vs H Q _ => ∃ (a C : Addr) (v : V), vs = [.ref a, v] ∧ H a = some (exo a C none) ∧ OexC K C ∧ PySem.W.findIn K (.ref C) "what" = some none ∧
  ∀ dx, H dx = none → dx ≠ a → Q .non (upd (upd H dx (exd dx [(("what" : Str), v)])) a (exo a C (some dx)))
section
variable {P : Program} {w : World} {K : PySem.W.Frag} {mg : Str → Option Value} {base : Heap}
theorem init_ok {qual : Str} {st : Stmt} {f : Addr} {fd : FuncData} {p1 p2 p3 p4 : Pos} (F : Fun K "__init__" qual st f fd) (S : FnScope ["self", "what"] ["self", "what"] (defScope st)) (hb : defBody st = [.Assign [.Attribute (.Name "self" p1) "what" p2] (.Name "what" p3) p4])
    (hs : (defScope st).names.lookup ("self" : Str) = some .local) (hw : (defScope st).names.lookup ("what" : Str) = some .local) : FnOk P w K mg base CX0 1 f fd ["self", "what"] (spInit K) := by
  refine F.ok S (fun vs H Q E h => ?_) fun cdv A outer s H vs Q E hr h => ?_
  · obtain ⟨a, C, v, rfl, _⟩ := h
    rfl
  · obtain ⟨a, C, v, rfl, ha, T, hn, k⟩ := h
    rw [hb]
    refine ⟨_, pss_one (ps_ost (pe_var (i := 0) rfl (.inl hs)) (pe_var (i := 1) rfl (.inl hw))), ?_⟩
    exact ⟨v, rfl, .ref a, rfl, a, C, rfl, T, hn, .inl ⟨ha, fun dx h1 h2 => k dx h1 h2⟩⟩
end
/-- what the written part says of an error's class -/
structure ErC (P : Program) (w : World) (K : PySem.W.Frag) (mg : Str → Option Value) (base : Heap) (c : Str) : Prop where
  ex : ∃ (C fI : Addr) (fd : FuncData) (ps : List Str), mg c = some (.ref C) ∧ OexC K C ∧ PySem.W.findIn K (.ref C) "__init__" = some (some (.ref fI)) ∧ PySem.W.typeIn K (.ref fI) = some (.type "function") ∧
    PySem.W.findIn K (.ref C) "what" = some none ∧ FnOk P w K mg base CX0 1 fI fd ps (spInit K) ∧ Binds K fd ps []
section
variable {X : Cx} {z : Zx} {pos p pos2 : Pos}
def dRaise (c : Str) (d : Cd PV) : Cd Flw := bnd d fun p => fun e s => .raise c p e s
theorem ms_raise {j : Nat} {c : Str} {e : Expr} {d : Cd PV} (T : ErC X.prog X.w X.K X.mg X.base c) (hr : Room j X.A) (tk : Takes X z.W) (he : ME X z e d) (hkj : 2 ≤ j := by decide) (hmg : z.mg = X.mg := by rfl) (hc : X.calm = true := by rfl) (hg : Gl X c := by rfl)
    (hdb : (c == ("__debug__" : Str)) = false := by decide) (hs : starEach [e] X.env = (false, eval e X.env) :: starEach [] X.env := by rfl) (hpl : (backTo pos (starEach [] X.env)).any (·.1) = false := by rfl) :
    MS X z (.Raise (some (.Call (.Name c p) [e] [] pos)) none pos2) (dRaise c d) := by
  obtain ⟨C, fI, fd, ps, gC, T, iC, tI, nw, F, b⟩ := T.ex
  refine PS.imp (ps_raise hc tk (pmk_oex T iC tI F (hr.mono hkj) b .nil pass0 hg gC (pa_cons he pa_nil hs) hdb hs hpl)) fun D σ H ⟨G, env, S, e, A, P⟩ => ?_
  subst e
  refine toE lwS A P fun p env1 S1 v G1 m1 A1 r1 P1 => ?_
  refine ⟨by show 1 ≤ 1000; decide, fun a ha => ⟨a, C, v, rfl, upd_same, T, nw, fun dx hd hne => ?_⟩⟩
  have hd1 : G1.H dx = none := by rw [upd_ne hne] at hd; exact hd
  refine ⟨rfl, dx, [(("what" : Str), v)], upd_same, ?_, hd1, ?_⟩
  · rw [upd_ne hne]
    exact upd_same
  · have eq : upd (del (upd (upd (upd G1.H a (exo a C none)) dx (exd dx [(("what" : Str), v)])) a (exo a C (some dx))) a) dx (.xd [(("what" : Str), v)]) = upd G1.H dx (.xd [(("what" : Str), v)]) := by
      funext b
      by_cases h1 : b = dx
      · rw [h1, upd_same, upd_same]
      · rw [upd_ne h1, upd_ne h1]
        by_cases h2 : b = a
        · rw [h2, del_same, ha]
        · rw [del_ne h2, upd_ne h2, upd_ne h1, upd_ne h2]
    rw [eq]
    have M : Mon G1 (G1.fresh dx (.xd [(("what" : Str), v)])) := (Ext.fresh hd1).mon A1.sure
    exact P1 σ (G1.fresh dx (.xd [(("what" : Str), v)])) (.ref C) dx v M (A1.fresh hd1) (by rw [hmg]; exact gC) (A1.ent.there dx (.inl hd1)) upd_same (r1.mon M)
end
end FS
set_option Elab.async false
set_option linter.all false
set_option maxRecDepth 100000
/-! FsOps: operators, comparisons, subscripts, slices, built-ins, walks. -/
namespace FS
open PySem PySem.Spec L2
/-! ### data -/
mutual
def PV.toD : PV → PyData
  | .non => .none
  | .bl b => .bool b
  | .int i => .int i
  | .str x => .str x
  | .tup xs => .tuple (toDs xs)
  | .tuz xs => .tuple (toDs xs)
  | .lst xs => .list (toDs xs)
  | .scr ns => .list (ns.map PyData.int)
  | .ref _ => .none
  | .raw _ => .none
def toDs : List PV → List PyData
  | [] => []
  | x :: xs => x.toD :: toDs xs
end
/-- plain data, of a bounded depth -/
def okd : Nat → PV → Bool
  | _, .non => true
  | _, .bl _ => true
  | _, .int _ => true
  | _, .str x => PyData.strOk x
  | k + 1, .tup xs => xs.all (okd k)
  | k + 1, .tuz xs => xs.all (okd k)
  | k + 1, .lst xs => xs.all (okd k)
  | _ + 1, .scr _ => true
  | _, _ => false
theorem ints_lay : ∀ ns : List Int, PyData.canLayAll0 (ns.map PyData.int) = true ∧ PyData.depthAll (ns.map PyData.int) = 0
  | [] => ⟨rfl, rfl⟩
  | n :: ns => by
    obtain ⟨h1, h2⟩ := ints_lay ns
    constructor
    · simp [PyData.canLayAll0, PyData.canLay0, h1]
    · simp [PyData.depthAll, PyData.depth, h2]
theorem toDs_lay {k : Nat} (ih : ∀ p, okd k p = true → p.toD.canLay0 = true ∧ p.toD.depth ≤ k) : ∀ xs : List PV, xs.all (okd k) = true → PyData.canLayAll0 (toDs xs) = true ∧ PyData.depthAll (toDs xs) ≤ k
  | [], _ => ⟨rfl, Nat.zero_le _⟩
  | x :: xs, h => by
    rw [List.all_cons, Bool.and_eq_true] at h
    obtain ⟨h1, h2⟩ := ih x h.1
    obtain ⟨h3, h4⟩ := toDs_lay ih xs h.2
    constructor
    · simp [toDs, PyData.canLayAll0, h1, h3]
    · simp only [toDs, PyData.depthAll]
      omega
theorem okd_lay : ∀ (k : Nat) (p : PV), okd k p = true → p.toD.canLay0 = true ∧ p.toD.depth ≤ k := by
  intro k
  induction k with
  | zero =>
    intro p h
    cases p <;> first | exact ⟨rfl, Nat.zero_le _⟩ | exact ⟨h, Nat.zero_le _⟩ | (simp [okd] at h)
  | succ k ih =>
    intro p h
    cases p with
    | non => exact ⟨rfl, Nat.zero_le _⟩
    | bl b => exact ⟨rfl, Nat.zero_le _⟩
    | int i => exact ⟨rfl, Nat.zero_le _⟩
    | str x => exact ⟨h, Nat.zero_le _⟩
    | tup xs =>
      obtain ⟨h1, h2⟩ := toDs_lay ih xs h
      exact ⟨by simpa [PV.toD, PyData.canLay0] using h1, by simp only [PV.toD, PyData.depth]; omega⟩
    | lst xs =>
      obtain ⟨h1, h2⟩ := toDs_lay ih xs h
      exact ⟨by simpa [PV.toD, PyData.canLay0] using h1, by simp only [PV.toD, PyData.depth]; omega⟩
    | scr ns =>
      obtain ⟨h1, h2⟩ := ints_lay ns
      exact ⟨by simpa [PV.toD, PyData.canLay0] using h1, by simp only [PV.toD, PyData.depth]; omega⟩
    | ref n => simp [okd] at h
    | raw v => simp [okd] at h
    | tuz xs =>
      obtain ⟨h1, h2⟩ := toDs_lay ih xs h
      exact ⟨by simpa [PV.toD, PyData.canLay0] using h1, by simp only [PV.toD, PyData.depth]; omega⟩
theorem okd_shaped {p : PV} (h : okd 60 p = true) : SeqAt.shaped p.toD = true := by
  obtain ⟨h1, h2⟩ := okd_lay 60 p h
  unfold SeqAt.shaped
  rw [h1, Bool.true_and]
  exact decide_eq_true (by omega)
section
variable {K : PySem.W.Frag} {G : Wd}
theorem dpAll_ints : ∀ ns : List Int, DpAll K G.H (ns.map V.int) (ns.map PyData.int)
  | [] => .nil
  | n :: ns => .cons (.int n) (dpAll_ints ns)
theorem reps_dp {k : Nat} (ih : ∀ p v, okd k p = true → Rep K G p v → Dp K G.H v p.toD) : ∀ (xs : List PV) (vs : List V), xs.all (okd k) = true → RepL K G xs vs → DpAll K G.H vs (toDs xs)
  | [], _, _, .nil => .nil
  | x :: xs, _, h, .cons r rr => by
    rw [List.all_cons, Bool.and_eq_true] at h
    exact .cons (ih x _ h.1 r) (reps_dp ih xs _ h.2 rr)
theorem rep_dp : ∀ (k : Nat) (p : PV) (v : V), okd k p = true → Rep K G p v → Dp K G.H v p.toD := by
  intro k
  induction k with
  | zero =>
    intro p v h r
    cases r with
    | non => exact .non
    | bl b => exact .bl b
    | int i => exact .int i
    | str x => exact .str x
    | _ => simp [okd] at h
  | succ k ih =>
    intro p v h r
    cases p with
    | non => cases r; exact .non
    | bl b => cases r; exact .bl b
    | int i => cases r; exact .int i
    | str x => cases r; exact .str x
    | tup xs =>
      obtain ⟨a, vs, rfl, q, rr⟩ := r.sqT
      exact .tup q (reps_dp ih xs vs h rr)
    | lst xs =>
      obtain ⟨a, vs, rfl, q, rr⟩ := r.sqL
      exact .lst (SqL.of q) (reps_dp ih xs vs h rr)
    | scr ns =>
      obtain ⟨a, rfl, q⟩ := r.sqS
      exact .lst q (dpAll_ints ns)
    | ref n => simp [okd] at h
    | raw v => simp [okd] at h
    | tuz xs =>
      obtain ⟨a, vs, rfl, q, rr⟩ := r.sqZ
      exact .tup q (reps_dp ih xs vs h rr)
/-- a shared list's content -/
def res (S : Stt) : PV → PV
  | .ref n => match S[n]? with
    | some (.lst xs) => .lst xs
    | none => .non
  | p => p
theorem res_dp {S : Stt} {p : PV} {v : V} (s : RepS K G S) (r : Rep K G p v) (h : okd 60 (res S p) = true) (hn : ∀ n, p = .ref n → S[n]? ≠ none) : Dp K G.H v (res S p).toD := by
  cases p with
  | ref n =>
    unfold res at h ⊢
    cases e : S[n]? with
    | none => exact absurd e (hn n rfl)
    | some o =>
      cases o with
      | lst xs =>
        simp only [e] at h ⊢
        obtain ⟨a, vs, rfl, _, q, rr⟩ := r.sqR s e
        exact .lst (SqL.of q) (reps_dp (rep_dp 59) xs vs h rr)
  | _ => exact rep_dp 60 _ _ h r
end
/-- == of data -/
def eqv (p q : PV) : Bool := PyData.eqv p.toD q.toD
def seen (S : Stt) : PV → Bool
  | .ref n => (S[n]?).isSome
  | _ => true
def pEq (S : Stt) (p q : PV) : Option PV := if (okd 60 (res S p) && okd 60 (res S q) && seen S p && seen S q) = true then some (.bl (eqv (res S p) (res S q))) else none
def pNe (S : Stt) (p q : PV) : Option PV := if (okd 60 (res S p) && okd 60 (res S q) && seen S p && seen S q) = true then some (.bl (!eqv (res S p) (res S q))) else none
theorem seen_ne {S : Stt} {p : PV} (h : seen S p = true) : ∀ n, p = .ref n → S[n]? ≠ none := fun n e z => by
  subst e
  have q : (S[n]?).isSome = true := h
  rw [z] at q
  cases q
theorem sure_frozen {G : Wd} {a : Addr} {o : HO} (su : Sure G) (hn : G.H a = none) (nt : NT o := by intro _ e; cases e) : Sure (G.frozen a o) := (Ext.frozen hn).sure su fun b hb => hb.elim .inl fun e => .inr ⟨o, by subst e; exact upd_same, nt⟩
section
variable {X : Cx} {z : Zx}
theorem op_pEq {j : Nat} (hr : Room j X.A) (hK : z.K = X.K := by rfl) : OpD X z (compareOp .Eq) pEq := by
  refine ⟨_, op_eqD hr.units, fun G S p q w x y Q e s su rp rq h => ?_⟩
  unfold pEq at e
  split at e
  · rename_i hc
    simp only [Bool.and_eq_true] at hc
    obtain ⟨⟨⟨h1, h2⟩, h3⟩, h4⟩ := hc
    cases e
    rw [hK] at s rp rq
    exact ⟨_, _, res_dp s rp h1 (seen_ne h3), res_dp s rq h2 (seen_ne h4), okd_shaped h1, okd_shaped h2, h _ G (.refl G) su (.bl _)⟩
  · cases e
theorem op_pNe {j : Nat} (hr : Room j X.A) (hK : z.K = X.K := by rfl) : OpD X z (compareOp .NotEq) pNe := by
  refine ⟨_, op_neD hr.units, fun G S p q w x y Q e s su rp rq h => ?_⟩
  unfold pNe at e
  split at e
  · rename_i hc
    simp only [Bool.and_eq_true] at hc
    obtain ⟨⟨⟨h1, h2⟩, h3⟩, h4⟩ := hc
    cases e
    rw [hK] at s rp rq
    exact ⟨_, _, res_dp s rp h1 (seen_ne h3), res_dp s rq h2 (seen_ne h4), okd_shaped h1, okd_shaped h2, h _ G (.refl G) su (.bl _)⟩
  · cases e
/-- ints by ints -/
def iI (C : Int → Int → Bool) (g : Int → Int → PV) : Stt → PV → PV → Option PV := fun _ p q => match p, q with
  | .int i, .int j => if C i j = true then some (g i j) else none
  | _, _ => none
theorem op_iI {g : Value → Value → Sem Value} {C : Int → Int → Bool} {C' : Int → Int → Prop} {k : Int → Int → Int} (o : OpR X g (rI C' fun i j => .int (k i j))) (hC : ∀ i j, C i j = true → C' i j) : OpD X z g (iI C fun i j => .int (k i j)) := by
  refine ⟨_, o, fun G S p q w x y Q e s su rp rq h => ?_⟩
  cases p with
  | int i =>
    cases q with
    | int j =>
      have e' : (if C i j = true then some (PV.int (k i j)) else none) = some w := e
      by_cases hc : C i j = true
      · rw [if_pos hc] at e'
        cases e'
        cases rp
        cases rq
        exact ⟨i, j, rfl, rfl, hC _ _ hc, h _ G (.refl G) su (.int _)⟩
      · rw [if_neg hc] at e'
        cases e'
    | _ => cases e
  | _ => cases e
theorem op_iB {g : Value → Value → Sem Value} {k : Int → Int → Bool} (o : OpR X g (rI0 fun i j => .bl (k i j))) : OpD X z g (iI (fun _ _ => true) fun i j => .bl (k i j)) := by
  refine ⟨_, o, fun G S p q w x y Q e s su rp rq h => ?_⟩
  cases p with
  | int i =>
    cases q with
    | int j =>
      cases (show some (PV.bl (k i j)) = some w from e)
      cases rp
      cases rq
      exact ⟨i, j, rfl, rfl, h _ G (.refl G) su (.bl _)⟩
    | _ => cases e
  | _ => cases e
theorem op_i0 {g : Value → Value → Sem Value} {k : Int → Int → Int} (o : OpR X g (rI0 fun i j => .int (k i j))) : OpD X z g (iI (fun _ _ => true) fun i j => .int (k i j)) := by
  refine ⟨_, o, fun G S p q w x y Q e s su rp rq h => ?_⟩
  cases p with
  | int i =>
    cases q with
    | int j =>
      cases (show some (PV.int (k i j)) = some w from e)
      cases rp
      cases rq
      exact ⟨i, j, rfl, rfl, h _ G (.refl G) su (.int _)⟩
    | _ => cases e
  | _ => cases e
def pSub := iI (fun _ _ => true) fun i j => .int (i - j)
def pLt := iI (fun _ _ => true) fun i j => .bl (decide (i < j))
def pLe := iI (fun _ _ => true) fun i j => .bl (decide (i ≤ j))
def pGt := iI (fun _ _ => true) fun i j => .bl (decide (j < i))
def pGe := iI (fun _ _ => true) fun i j => .bl (decide (j ≤ i))
def pMod := iI (fun _ j => decide (0 < j)) fun i j => .int (i % j)
def okDiv (j : Int) : Bool := decide (0 < j) && decide (j < 1000000000000000000000)
def pDiv := iI (fun _ j => okDiv j) fun i j => .int (i / j)
def okMul (i j : Int) : Bool := (decide (-18446744073709551616 < i) && decide (i < 18446744073709551616)) || (decide (-18446744073709551616 < j) && decide (j < 18446744073709551616))
def okPow (i j : Int) : Bool := decide (0 ≤ j) && decide (j ≤ 1000000) && decide (i.natAbs < 18446744073709551616)
def pPow := iI okPow fun i j => .int (i ^ j.toNat)
theorem op_pSub : OpD X z (binaryOp .Sub) pSub := op_i0 op_sub
theorem op_pLt : OpD X z (compareOp .Lt) pLt := op_iB op_lt
theorem op_pLe : OpD X z (compareOp .LtE) pLe := op_iB op_le
theorem op_pGt : OpD X z (compareOp .Gt) pGt := op_iB op_gt
theorem op_pGe : OpD X z (compareOp .GtE) pGe := op_iB op_ge
theorem op_pMod : OpD X z (binaryOp .Mod) pMod := op_iI (C := fun _ j => decide (0 < j)) op_mod fun i j h => of_decide_eq_true h
theorem op_pDiv : OpD X z (binaryOp .FloorDiv) pDiv := op_iI (C := fun _ j => okDiv j) op_fdivW fun i j h => by
  unfold okDiv at h
  simp only [Bool.and_eq_true, decide_eq_true_eq] at h
  exact wide_div (b := 80) h.1 (by
    have : j.natAbs < 1000000000000000000000 := by omega
    exact Nat.lt_of_lt_of_le this (by decide)) (by decide) (by decide)
theorem op_pPow : OpD X z (binaryOp .Pow) pPow := op_iI op_pow fun i j h => by
  unfold okPow at h
  simp only [Bool.and_eq_true, decide_eq_true_eq] at h
  exact ⟨h.1.1, h.1.2, Nat.lt_of_lt_of_le h.2 (by decide)⟩
def pMulI := iI okMul fun i j => .int (i * j)
theorem op_pMulI : OpD X z (binaryOp .Mult) pMulI := op_iI op_mul fun i j h => by
  unfold okMul at h
  simp only [Bool.or_eq_true, Bool.and_eq_true, decide_eq_true_eq] at h
  have e : (2 : Int) ^ 64 = 18446744073709551616 := by decide
  rcases h with h | h
  · exact .inl (by rw [e]; exact h)
  · exact .inr (by rw [e]; exact h)
/-- list * int: a new list as a value; tuple * int -/
def pMulL : Stt → PV → PV → Option PV := fun _ p q => match p, q with
  | .lst xs, .int k => if k < 1048576 ∧ -1048576 < k ∧ xs.length * k.toNat ≤ sizeLine then some (.lst (List.replicate k.toNat xs).flatten) else none
  | _, _ => none
theorem op_pMulL (hK : z.K = X.K := by rfl) : OpD X z (binaryOp .Mult) pMulL := by
  refine ⟨_, op_rep, fun G S p q w x y Q e s su rp rq h => ?_⟩
  cases p with
  | lst xs =>
    cases q with
    | int k =>
      simp only [pMulL] at e
      split at e
      · rename_i hc
        cases e
        cases rq
        obtain ⟨a, vs, rfl, q, rr⟩ := rp.sqL
        have e2 : (2 : Int) ^ 63 = 9223372036854775808 := by decide
        refine ⟨a, k, vs, rfl, rfl, q, by rw [e2]; omega, by rw [e2]; omega, by rw [← rr.length]; exact hc.2.2, fun p hn => ?_⟩
        have M := (Ext.frozen (o := .lst (List.replicate k.toNat vs).flatten) hn).mon su
        exact h (.ref p) (G.frozen p (.lst (List.replicate k.toNat vs).flatten)) (Ext.frozen hn) (sure_frozen su hn) (.lst (.inr rfl) upd_same ((rr.rep k.toNat).mon M))
      · cases e
    | _ => cases e
  | _ => cases e
def pMul (S : Stt) (p q : PV) : Option PV := (pMulI S p q).or (pMulL S p q)
theorem op_pMul (hK : z.K = X.K := by rfl) : OpD X z (binaryOp .Mult) pMul := op_pMulI.or (op_pMulL hK)
/-- + of ints, texts, tuples, lists -/
def pAddI := iI (fun _ _ => true) fun i j => .int (i + j)
def pAddS : Stt → PV → PV → Option PV := fun _ p q => match p, q with
  | .str x, .str y => if x.length + y.length ≤ sizeLine then some (.str (x ++ y)) else none
  | .tup xs, .tup ys => if xs.length + ys.length ≤ sizeLine then some (.tup (xs ++ ys)) else none
  | .lst xs, .lst ys => if xs.length + ys.length ≤ sizeLine then some (.lst (xs ++ ys)) else none
  | _, _ => none
theorem repL_nil {K : PySem.W.Frag} {G : Wd} {xs : List PV} {vs : List V} (r : RepL K G xs vs) : vs = [] → xs = [] := fun e => by
  subst e
  cases r
  rfl
theorem op_pAddS (hK : z.K = X.K := by rfl) : OpD X z (binaryOp .Add) pAddS := by
  refine ⟨_, (op_add_str.or op_catN).or op_cat, fun G S p q w x y Q e s su rp rq h => ?_⟩
  cases p with
  | str x =>
    cases q with
    | str y =>
      simp only [pAddS] at e
      split at e
      · rename_i hc
        cases e
        cases rp
        cases rq
        exact .inl (.inl ⟨_, _, rfl, rfl, hc, h _ G (.refl G) su (.str _)⟩)
      · cases e
    | _ => cases e
  | tup xs =>
    cases q with
    | tup ys =>
      simp only [pAddS] at e
      split at e
      · rename_i hc
        cases e
        obtain ⟨a, vs, rfl, q1, r1⟩ := rp.sqT
        obtain ⟨b, ws, rfl, q2, r2⟩ := rq.sqT
        refine .inl (.inr ⟨a, b, vs, ws, rfl, rfl, by rw [← hK]; exact q1, by rw [← hK]; exact q2, by rw [← r1.length, ← r2.length]; exact hc, fun e => ?_, fun _ e => ?_, fun _ _ p o hn ho => ?_⟩)
        · have := repL_nil r1 e
          subst this
          exact h _ G (.refl G) su rq
        · have := repL_nil r2 e
          subst this
          exact h _ G (.refl G) su (by rw [List.append_nil]; exact rp)
        · have M := (Ext.frozen (o := .frz o (.tup (vs ++ ws))) hn).mon su
          exact h (.ref p) (G.frozen p (.frz o (.tup (vs ++ ws)))) (Ext.frozen hn) (sure_frozen su hn) (.tup (.inl ⟨.inr rfl, o, ho, upd_same⟩) ((r1.append r2).mon M))
      · cases e
    | _ => cases e
  | lst xs =>
    cases q with
    | lst ys =>
      simp only [pAddS] at e
      split at e
      · rename_i hc
        cases e
        obtain ⟨a, vs, rfl, q1, r1⟩ := rp.sqL
        obtain ⟨b, ws, rfl, q2, r2⟩ := rq.sqL
        refine .inr ⟨a, b, vs, ws, rfl, rfl, q1, q2, by rw [← r1.length, ← r2.length]; exact hc, fun p hn => ?_⟩
        have M := (Ext.frozen (o := .lst (vs ++ ws)) hn).mon su
        exact h (.ref p) (G.frozen p (.lst (vs ++ ws))) (Ext.frozen hn) (sure_frozen su hn) (.lst (.inr rfl) upd_same ((r1.append r2).mon M))
      · cases e
    | _ => cases e
  | _ => cases e
def pAdd (S : Stt) (p q : PV) : Option PV := (pAddI S p q).or (pAddS S p q)
theorem op_pAdd (hK : z.K = X.K := by rfl) : OpD X z (binaryOp .Add) pAdd := (op_i0 op_add).or (op_pAddS hK)
/-- is None -/
def pIs : Stt → PV → PV → Option PV := fun _ p q => match q, p with
  | .non, .non => some (.bl true)
  | .non, .raw _ => none
  | .non, _ => some (.bl false)
  | _, _ => none
def pIsNot : Stt → PV → PV → Option PV := fun _ p q => match q, p with
  | .non, .non => some (.bl false)
  | .non, .raw _ => none
  | .non, _ => some (.bl true)
  | _, _ => none
theorem op_pIs : OpD X z (compareOp .Is) pIs := by
  refine ⟨_, op_isN, fun G S p q w x y Q e s su rp rq h => ?_⟩
  cases q with
  | non =>
    cases rq
    cases rp <;> first
      | (cases e; exact ⟨rfl, h _ G (.refl G) su (.bl _)⟩)
      | (cases e; done)
  | _ => cases p <;> cases e
theorem op_pIsNot : OpD X z (compareOp .IsNot) pIsNot := by
  refine ⟨_, op_notN, fun G S p q w x y Q e s su rp rq h => ?_⟩
  cases q with
  | non =>
    cases rq
    cases rp <;> first
      | (cases e; exact ⟨rfl, h _ G (.refl G) su (.bl _)⟩)
      | (cases e; done)
  | _ => cases p <;> cases e
/-- in, over a list of data -/
def pIn : Stt → PV → PV → Option PV := fun _ p q => match q with
  | .lst xs => if (okd 60 p && okd 60 (.lst xs)) = true then some (.bl (xs.any fun y => eqv y p)) else none
  | _ => none
def pNotIn : Stt → PV → PV → Option PV := fun _ p q => match q with
  | .lst xs => if (okd 60 p && okd 60 (.lst xs)) = true then some (.bl (!xs.any fun y => eqv y p)) else none
  | _ => none
theorem any_toDs (p : PV) : ∀ xs : List PV, (toDs xs).any (fun y => PyData.eqv y p.toD) = xs.any fun y => eqv y p
  | [] => rfl
  | x :: xs => by
    simp only [toDs, List.any_cons, any_toDs p xs]
    rfl
theorem op_pIn {j : Nat} (hr : Room j X.A) (hK : z.K = X.K := by rfl) : OpD X z (compareOp .In) pIn := by
  refine ⟨_, op_inD (by have := hr.un; omega), fun G S p q w x y Q e s su rp rq h => ?_⟩
  cases q with
  | lst xs =>
    simp only [pIn] at e
    split at e
    · rename_i hc
      rw [Bool.and_eq_true] at hc
      cases e
      rw [hK] at s rp rq
      exact ⟨_, _, rep_dp 60 _ _ hc.1 rp, rep_dp 60 _ _ hc.2 rq, okd_shaped hc.1, okd_shaped hc.2, by rw [any_toDs]; exact h _ G (.refl G) su (.bl _)⟩
    · cases e
  | _ => cases e
theorem op_pNotIn {j : Nat} (hr : Room j X.A) (hK : z.K = X.K := by rfl) : OpD X z (compareOp .NotIn) pNotIn := by
  refine ⟨_, op_notInD (by have := hr.un; omega), fun G S p q w x y Q e s su rp rq h => ?_⟩
  cases q with
  | lst xs =>
    simp only [pNotIn] at e
    split at e
    · rename_i hc
      rw [Bool.and_eq_true] at hc
      cases e
      rw [hK] at s rp rq
      exact ⟨_, _, rep_dp 60 _ _ hc.1 rp, rep_dp 60 _ _ hc.2 rq, okd_shaped hc.1, okd_shaped hc.2, by rw [any_toDs]; exact h _ G (.refl G) su (.bl _)⟩
    · cases e
  | _ => cases e
/-! ### subscripts, slices -/
variable {pos p2 : Pos} {a b : Expr} {da db : Cd PV}
theorem atI_rep {K : PySem.W.Frag} {G : Wd} {ps : List PV} {vs : List V} {i : Int} {p : PV} (r : RepL K G ps vs) (h : atI ps i = some p) : ∃ v, atI vs i = some v ∧ Rep K G p v := by
  unfold atI at h ⊢
  rw [← r.length]
  cases e : ixN ps.length i with
  | none => rw [e] at h; cases h
  | some j =>
    rw [e] at h
    obtain ⟨v, e1, r1⟩ := r.get (i := j) h
    exact ⟨v, e1, r1⟩
def pIx (S : Stt) (p q : PV) : Option PV := match res S p, q with
  | .tup xs, .int i => atI xs i
  | .lst xs, .int i => atI xs i
  | .scr ns, .int i => (atI ns i).map PV.int
  | .str z, .int i => if z.length ≤ sizeLine then (atI z.cps.toList i).map fun c => PV.str ⟨#[c]⟩ else none
  | _, _ => none
theorem atI_map {α β : Type} (f : α → β) (xs : List α) (i : Int) : atI (xs.map f) i = (atI xs i).map f := by
  unfold atI
  rw [List.length_map]
  cases ixN xs.length i with
  | none => rfl
  | some j => simp
theorem ix_rep {K : PySem.W.Frag} {G : Wd} {S : Stt} {p q w : PV} {x y : V} {Q : VK} (h : pIx S p q = some w) (s : RepS K G S) (rp : Rep K G p x) (rq : Rep K G q y) (k : ∀ v, Rep K G w v → Q v G.H) : rIx K x y G.H Q := by
  cases q with
  | int i =>
    cases rq
    cases p with
    | tup xs =>
      obtain ⟨a, vs, rfl, q, r⟩ := rp.sqT
      obtain ⟨v, e, r1⟩ := atI_rep r h
      exact .inr (.inl ⟨a, vs, i, v, rfl, rfl, q, e, k v r1⟩)
    | lst xs =>
      obtain ⟨a, vs, rfl, q, r⟩ := rp.sqL
      obtain ⟨v, e, r1⟩ := atI_rep r h
      exact .inl ⟨a, vs, i, v, rfl, rfl, SqL.of q, e, k v r1⟩
    | scr ns =>
      obtain ⟨a, rfl, q⟩ := rp.sqS
      cases e : atI ns i with
      | none =>
        have h' : (atI ns i).map PV.int = some w := h
        rw [e] at h'; cases h'
      | some n =>
        have h' : (atI ns i).map PV.int = some w := h
        rw [e] at h'
        cases h'
        exact .inl ⟨a, _, i, .int n, rfl, rfl, q, by rw [atI_map, e]; rfl, k _ (.int n)⟩
    | str z =>
      cases rp
      simp only [pIx, res] at h
      split at h
      · rename_i hl
        cases e : atI z.cps.toList i with
        | none => rw [e] at h; cases h
        | some c =>
          rw [e] at h
          cases h
          exact .inr (.inr ⟨z, i, c, rfl, rfl, hl, e, k _ (.str _)⟩)
      · cases h
    | ref n =>
      unfold pIx res at h
      cases e : S[n]? with
      | none => simp only [e] at h; cases h
      | some o =>
        cases o with
        | lst xs =>
          simp only [e] at h
          obtain ⟨a, vs, rfl, _, q, r⟩ := rp.sqR s e
          obtain ⟨v, e1, r1⟩ := atI_rep r h
          exact .inl ⟨a, vs, i, v, rfl, rfl, SqL.of q, e1, k v r1⟩
    | _ => cases h
  | _ =>
    unfold pIx at h
    split at h <;> first | cases h | (rename_i h1 h2; cases h2)
theorem me_ix (ha : ME X z a da) (hb : ME X z b db) (hK : z.K = X.K := by rfl) (hs : PlainIx b := by exact fun _ _ => rfl) : ME X z (.Subscript a b pos) (dOp pIx da db) := by
  refine (pe_ix ix_seq ha hb hs).imp fun σ H Q h => ?_
  refine re_op (g := fun _ _ => pure .none) (f := pIx) (r := rIx X.K) (fun G S p q w x y Q e s su rp rq h => ?_) h
  rw [hK] at s rp rq
  exact ix_rep e s rp rq fun v r => h v G (.refl G) su (by rw [hK]; exact r)
/-- the items of xs[lo:hi] -/
def cutP {α : Type} (xs : List α) (lo hi : Option Int) : List α := (xs.drop (HT.sIx xs.length 0 lo)).take (HT.sIx xs.length xs.length hi - HT.sIx xs.length 0 lo)
theorem RepL.cut {K : PySem.W.Frag} {G : Wd} {ps : List PV} {vs : List V} (r : RepL K G ps vs) (lo hi : Option Int) : RepL K G (cutP ps lo hi) (cutV vs lo hi) := by
  unfold cutP cutV
  rw [r.length]
  exact (r.drop _).take _
theorem cut_whole {α : Type} (xs : List α) {lo hi : Option Int} (h : HT.sIx xs.length 0 lo = 0 ∧ HT.sIx xs.length xs.length hi = xs.length) : cutP xs lo hi = xs := by
  unfold cutP
  rw [h.1, h.2]
  simp
def PostO (z : Zx) (G : Wd) (σ : St) (Q : Option Int → Hp → Prop) : Out (Option Int) → Prop
  | .ok o env S => ∀ (G' : Wd), Mon G G' → At z.K z.G0 G' S env σ → Q o G'.H
  | .raise c w env S => ∀ σ', PRaise z G c w env S σ'
  | .bad => False
def RO (z : Zx) (d : Cd (Option Int)) : TO := fun σ H Q => ∃ G env S, G.H = H ∧ At z.K z.G0 G S env σ ∧ PostO z G σ Q (d env S)
abbrev MO (X : Cx) (z : Zx) (e : Option Expr) (d : Cd (Option Int)) : Prop := PO X e (RO z d)
theorem PostO.later {z : Zx} {G G1 : Wd} {σ : St} {Q : Option Int → Hp → Prop} {o : Out (Option Int)} (h : PostO z G σ Q o) (M : Mon G G1) : PostO z G1 σ Q o := by
  cases o with
  | ok p env S => exact fun G' m a => h G' (M.trans m) a
  | raise c w env S => exact fun σ' => (h σ').later M
  | bad => exact h
theorem lwO {z : Zx} {σ : St} {Q : Option Int → Hp → Prop} : Lw z (fun G o => PostO z G σ Q o) := ⟨fun _ _ _ h m => h.later m, fun _ _ _ _ _ h => h, fun _ h => h⟩
theorem toO {β : Type} {F : Wd → Out β → Prop} {G : Wd} {env : Env} {S : Stt} {σ : St} (L : Lw z F) {d : Cd (Option Int)} {k : Option Int → Cd β} {R : Option Int → Hp → Prop} (A : At z.K z.G0 G S env σ) (P : F G (bnd d k env S))
    (h : ∀ o env1 S1 G1, Mon G G1 → At z.K z.G0 G1 S1 env1 σ → F G1 (k o env1 S1) → R o G1.H) : RO z d σ G.H R := by
  refine ⟨G, env, S, rfl, A, ?_⟩
  unfold bnd at P
  cases e : d env S with
  | ok p env1 S1 =>
    rw [e] at P
    exact fun G1 m a => h p env1 S1 G1 m a (L.later _ _ _ P m)
  | raise c w env1 S1 =>
    rw [e] at P
    exact L.rais _ _ _ _ _ P
  | bad =>
    rw [e] at P
    exact (L.bad _ P).elim
def dNoPart : Cd (Option Int) := ret none
def dPart (d : Cd PV) : Cd (Option Int) := bnd d fun p => match p with
  | .int i => ret (some i)
  | _ => fun _ _ => .bad
theorem _root_.L2.PO.imp {e : Option Expr} {t t' : TO} (h : PO X e t) (i : ∀ σ H Q, t' σ H Q → t σ H Q) : PO X e t' := ⟨fun pins s σ H Q I q => h.run pins s σ H Q I (i σ H Q q)⟩
theorem mo_none : MO X z none dNoPart := po_none.imp fun σ H Q ⟨G, env, S, e, A, P⟩ => by
  subst e
  exact P G (Mon.refl _) A
theorem mo_some {d : Cd PV} (h : ME X z a d) : MO X z (some a) (dPart d) := (po_some h).imp fun σ H Q ⟨G, env, S, e, A, P⟩ => by
  subst e
  refine toE lwO A P fun p env1 S1 v G1 m1 A1 r1 P1 => ?_
  cases p with
  | int i =>
    cases r1
    exact ⟨i, rfl, P1 G1 (Mon.refl _) A1⟩
  | _ => exact P1.elim
def pCut (S : Stt) (p : PV) (lo hi : Option Int) : Option PV := match res S p with
  | .tup xs => some (.tup (cutP xs lo hi))
  | .lst xs => some (.lst (cutP xs lo hi))
  | .scr ns => some (.lst ((cutP ns lo hi).map PV.int))
  | _ => none
def dCut (d : Cd PV) (lo hi : Cd (Option Int)) : Cd PV := bnd d fun p => bnd lo fun l => bnd hi fun h => fun e s => match pCut s p l h with
  | some w => .ok w e s
  | none => .bad
theorem cutP_map {α β : Type} (f : α → β) (xs : List α) (lo hi : Option Int) : cutP (xs.map f) lo hi = (cutP xs lo hi).map f := by
  unfold cutP
  rw [List.length_map, List.map_take, List.map_drop]
theorem cut_rep {K : PySem.W.Frag} {G : Wd} {S : Stt} {p w : PV} {lo hi : Option Int} {x : V} {Q : VK} (h : pCut S p lo hi = some w) (s : RepS K G S) (su : Sure G) (rp : Rep K G p x) (k : ∀ v G', Ext G G' → Sure G' → Rep K G' w v → Q v G'.H) :
    rSlN K x lo hi G.H Q ∨ rSlL K x lo hi G.H Q := by
  have newL : ∀ (a : Addr) (vs : List V) (xs : List PV), SqL K G.H a vs → RepL K G xs vs → w = .lst (cutP xs lo hi) → rSlL K (.ref a) lo hi G.H Q := fun a vs xs q r e => by
    refine ⟨a, vs, rfl, q, fun p hn => ?_⟩
    subst e
    have M := (Ext.frozen (o := .lst (cutV vs lo hi)) hn).mon su
    exact k (.ref p) (G.frozen p (.lst (cutV vs lo hi))) (Ext.frozen hn) (sure_frozen su hn) (.lst (.inr rfl) upd_same ((r.cut lo hi).mon M))
  cases p with
  | tup xs =>
    cases h
    obtain ⟨a, vs, rfl, q, r⟩ := rp.sqT
    refine .inl ⟨a, vs, rfl, q, fun hw => ?_, fun _ p o hn ho => ?_⟩
    · rw [← r.length] at hw
      rw [cut_whole xs hw] at k
      exact k _ G (.refl G) su rp
    · have M := (Ext.frozen (o := .frz o (.tup (cutV vs lo hi))) hn).mon su
      exact k (.ref p) (G.frozen p (.frz o (.tup (cutV vs lo hi)))) (Ext.frozen hn) (sure_frozen su hn) (.tup (.inl ⟨.inr rfl, o, ho, upd_same⟩) ((r.cut lo hi).mon M))
  | lst xs =>
    cases h
    obtain ⟨a, vs, rfl, q, r⟩ := rp.sqL
    exact .inr (newL a vs xs (SqL.of q) r rfl)
  | scr ns =>
    cases h
    obtain ⟨a, rfl, q⟩ := rp.sqS
    exact .inr (newL a _ _ q (RepL.ints ns) (by rw [cutP_map]))
  | ref n =>
    unfold pCut res at h
    cases e : S[n]? with
    | none => simp only [e] at h; cases h
    | some o =>
      cases o with
      | lst xs =>
        simp only [e] at h
        cases h
        obtain ⟨a, vs, rfl, _, q, r⟩ := rp.sqR s e
        exact .inr (newL a vs xs (SqL.of q) r rfl)
  | _ => cases h
theorem me_cut {d : Cd PV} {lo hi : Option Expr} {dl dh : Cd (Option Int)} (h : ME X z a d) (hl : MO X z lo dl) (hh : MO X z hi dh) (hK : z.K = X.K := by rfl) : ME X z (.Subscript a (.Slice lo hi none p2) pos) (dCut d dl dh) := by
  refine (pe_slice (sl_tupN.or sl_list) h hl hh).imp fun σ H Q ⟨G, env, S, e, A, P⟩ => ?_
  subst e
  refine toE lwE A P fun p env1 S1 v G1 m1 A1 r1 P1 => toO lwE A1 P1 fun l env2 S2 G2 m2 A2 P2 => toO lwE A2 P2 fun u env3 S3 G3 m3 A3 P3 => ?_
  cases e : pCut S3 p l u with
  | none => simp only [e] at P3; exact P3.elim
  | some w =>
    simp only [e] at P3
    rw [← hK]
    exact cut_rep e A3.st A3.sure (r1.mon (m2.trans m3)) fun v G' x su r => P3 v G' (x.mon A3.sure) (A3.ext x su) r
/-! ### calls of built-ins -/
def CallD (X : Cx) (z : Zx) (f : Value) (g : Stt → List PV → Option PV) : Prop :=
  ∃ r : List V → Hp → VK → Prop, CallR X f r ∧ ∀ (G : Wd) (S : Stt) (ps : List PV) (w : PV) (vs : List V) (Q : VK), g S ps = some w → RepS z.K G S → Sure G → RepL z.K G ps vs →
    (∀ v G', Ext G G' → Sure G' → Rep z.K G' w v → Q v G'.H) → r vs G.H Q
def dFn (g : Stt → List PV → Option PV) (d : Cd (List PV)) : Cd PV := bnd d fun ps => fun e s => match g s ps with
  | some w => .ok w e s
  | none => .bad
variable {e : Expr} {es : List Expr} {d : Cd (List PV)} {p : Pos} {x : Str}
theorem ra_fn {f : Value} {g : Stt → List PV → Option PV} {r : List V → Hp → VK → Prop} {σ : St} {H : Hp} {Q : VK}
    (k : ∀ (G : Wd) (S : Stt) (ps : List PV) (w : PV) (vs : List V) (Q : VK), g S ps = some w → RepS z.K G S → Sure G → RepL z.K G ps vs → (∀ v G', Ext G G' → Sure G' → Rep z.K G' w v → Q v G'.H) → r vs G.H Q)
    (h : RE z (dFn g d) σ H Q) : tCB r (RA z d) σ H Q := by
  obtain ⟨G, env, S, e, A, P⟩ := h
  subst e
  refine toA lwE A P fun ps env1 S1 vs G1 m1 A1 r1 P1 => ?_
  cases e : g S1 ps with
  | none => simp only [e] at P1; exact P1.elim
  | some w =>
    simp only [e] at P1
    exact k G1 S1 ps w vs Q e A1.st A1.sure r1 fun v G' xx su rv => P1 v G' (xx.mon A1.sure) (A1.ext xx su) rv
theorem me_blt {id : String} {g : Stt → List PV → Option PV} (c : CallD X z (.builtin id) g) (hm : X.mg x = none) (ha : MA X z (e :: es) d) (hv : bootBuiltins x = some (.builtin id) := by decide +kernel) (hg : Gl X x := by rfl) (hn : x ≠ "__name__" := by decide) (hdb : (x == ("__debug__" : Str)) = false := by decide)
    (he : starEach (e :: es) X.env = (false, eval e X.env) :: starEach es X.env := by rfl) (hpl : (backTo pos (starEach es X.env)).any (·.1) = false := by rfl) : ME X z (.Call (.Name x p) (e :: es) [] pos) (dFn g d) := by
  obtain ⟨r, c, k⟩ := c
  exact (pe_callB c hg hm hv ha hn hdb he hpl).imp fun σ H Q h => ra_fn (f := .none) k h
theorem me_bty {T : String} {g : Stt → List PV → Option PV} (c : CallD X z (.type T) g) (hm : X.mg x = none) (ha : MA X z (e :: es) d) (hv : bootBuiltins x = some (.type T) := by decide +kernel) (hg : Gl X x := by rfl) (hn : x ≠ "__name__" := by decide) (hdb : (x == ("__debug__" : Str)) = false := by decide)
    (he : starEach (e :: es) X.env = (false, eval e X.env) :: starEach es X.env := by rfl) (hpl : (backTo pos (starEach es X.env)).any (·.1) = false := by rfl) : ME X z (.Call (.Name x p) (e :: es) [] pos) (dFn g d) := by
  obtain ⟨r, c, k⟩ := c
  exact (pe_callTy c hg hm hv ha hn hdb he hpl).imp fun σ H Q h => ra_fn (f := .none) k h
theorem repL1 {K : PySem.W.Frag} {G : Wd} {p : PV} {vs : List V} (r : RepL K G [p] vs) : ∃ v, vs = [v] ∧ Rep K G p v := by
  cases r with
  | cons h t => cases t; exact ⟨_, rfl, h⟩
theorem repL2 {K : PySem.W.Frag} {G : Wd} {p q : PV} {vs : List V} (r : RepL K G [p, q] vs) : ∃ v w, vs = [v, w] ∧ Rep K G p v ∧ Rep K G q w := by
  cases r with
  | cons h t =>
    cases t with
    | cons h' t' => cases t'; exact ⟨_, _, rfl, h, h'⟩
/-- len -/
def fLen (S : Stt) (ps : List PV) : Option PV := match ps with
  | [p] => match res S p with
    | .tup xs => some (.int xs.length)
    | .lst xs => some (.int xs.length)
    | .scr ns => some (.int ns.length)
    | .str x => if x.length ≤ sizeLine then some (.int x.length) else none
    | _ => none
  | _ => none
theorem c_len (hK : z.K = X.K := by rfl) : CallD X z (.builtin "len") fLen := by
  refine ⟨_, call_len_seq.or call_len_str, fun G S ps w vs Q h s su r k => ?_⟩
  rw [← hK]
  match ps, h with
  | [p], h =>
    obtain ⟨v, rfl, rp⟩ := repL1 r
    cases p with
    | tup xs =>
      cases h
      obtain ⟨a, vs, rfl, q, rr⟩ := rp.sqT
      exact .inl ⟨a, vs, rfl, .inr q, by rw [← rr.length]; exact k _ G (.refl G) su (.int _)⟩
    | lst xs =>
      cases h
      obtain ⟨a, vs, rfl, q, rr⟩ := rp.sqL
      exact .inl ⟨a, vs, rfl, .inl (SqL.of q), by rw [← rr.length]; exact k _ G (.refl G) su (.int _)⟩
    | scr ns =>
      cases h
      obtain ⟨a, rfl, q⟩ := rp.sqS
      exact .inl ⟨a, _, rfl, .inl q, by rw [List.length_map]; exact k _ G (.refl G) su (.int _)⟩
    | str x =>
      cases rp
      simp only [fLen, res] at h
      split at h
      · rename_i hl
        cases h
        exact .inr ⟨x, rfl, hl, k _ G (.refl G) su (.int _)⟩
      · cases h
    | ref n =>
      unfold fLen res at h
      cases e : S[n]? with
      | none => simp only [e] at h; cases h
      | some o =>
        cases o with
        | lst xs =>
          simp only [e] at h
          cases h
          obtain ⟨a, vs, rfl, _, q, rr⟩ := rp.sqR s e
          exact .inl ⟨a, vs, rfl, .inl (SqL.of q), by rw [← rr.length]; exact k _ G (.refl G) su (.int _)⟩
    | _ => cases h
def fInt (_ : Stt) (ps : List PV) : Option PV := match ps with
  | [.int i] => some (.int i)
  | [.bl b] => some (.int (if b then 1 else 0))
  | _ => none
theorem c_int : CallD X z (.type "int") fInt := by
  refine ⟨_, call_int1, fun G S ps w vs Q h s su r k => ?_⟩
  match ps, h with
  | [.int i], h =>
    cases h
    obtain ⟨v, rfl, rp⟩ := repL1 r
    cases rp
    exact .inl ⟨i, rfl, k _ G (.refl G) su (.int _)⟩
  | [.bl b], h =>
    cases h
    obtain ⟨v, rfl, rp⟩ := repL1 r
    cases rp
    exact .inr ⟨b, rfl, k _ G (.refl G) su (.int _)⟩
def fMin (_ : Stt) (ps : List PV) : Option PV := match ps with
  | [.int i, .int j] => some (.int (if j < i then j else i))
  | _ => none
def fMax (_ : Stt) (ps : List PV) : Option PV := match ps with
  | [.int i, .int j] => some (.int (if j > i then j else i))
  | _ => none
theorem c_min (hc : X.calm = true := by rfl) : CallD X z (.builtin "min") fMin := by
  refine ⟨_, call_min2 hc, fun G S ps w vs Q h s su r k => ?_⟩
  match ps, h with
  | [.int i, .int j], h =>
    cases h
    obtain ⟨v, u, rfl, rp, rq⟩ := repL2 r
    cases rp
    cases rq
    exact ⟨i, j, rfl, k _ G (.refl G) su (.int _)⟩
theorem c_max (hc : X.calm = true := by rfl) : CallD X z (.builtin "max") fMax := by
  refine ⟨_, call_max2 hc, fun G S ps w vs Q h s su r k => ?_⟩
  match ps, h with
  | [.int i, .int j], h =>
    cases h
    obtain ⟨v, u, rfl, rp, rq⟩ := repL2 r
    cases rp
    cases rq
    exact ⟨i, j, rfl, k _ G (.refl G) su (.int _)⟩
/-- isinstance of data -/
def tyN : PV → Option String
  | .non => some "NoneType"
  | .bl _ => some "bool"
  | .int _ => some "int"
  | .str _ => some "str"
  | .tup _ => some "tuple"
  | .lst _ => some "list"
  | .scr _ => none
  | _ => none
/-- a's class beneath b -/
def subT (a b : String) : Option Bool := if ["int", "bool", "str", "tuple", "list"].contains b = true then some (a == b || (a == "bool" && b == "int")) else none
def fIsi (_ : Stt) (ps : List PV) : Option PV := match ps with
  | [p, .raw (.ty n)] => (tyN p).bind fun t => (subT t n).map PV.bl
  | _ => none
theorem sub_kit {p : PV} {t n : String} {b : Bool} (h : tyN p = some t) (hb : subT t n = some b) : kitB t n = some b := by
  have hn : n = "int" ∨ n = "bool" ∨ n = "str" ∨ n = "tuple" ∨ n = "list" := by
    unfold subT at hb
    split at hb
    · rename_i hc
      simpa using hc
    · cases hb
  have ht : t = "NoneType" ∨ t = "bool" ∨ t = "int" ∨ t = "str" ∨ t = "tuple" ∨ t = "list" := by
    cases p <;> simp [tyN] at h <;> simp [← h]
  rcases hn with rfl | rfl | rfl | rfl | rfl <;> rcases ht with rfl | rfl | rfl | rfl | rfl | rfl <;>
    (rw [← hb]; decide +kernel)
theorem rep_ty {K : PySem.W.Frag} {G : Wd} {p : PV} {v : V} {t : String} (r : Rep K G p v) (h : tyN p = some t) : TyX K G.H v (.type t) := by
  cases p with
  | non => cases h; cases r; exact .base .non
  | bl b => cases h; cases r; exact .base (.bl b)
  | int i => cases h; cases r; exact .base (.int i)
  | str x => cases h; cases r; exact .base (.str x)
  | tup xs =>
    cases h
    cases r with
    | tup hh rr =>
      rcases hh with ⟨_, o, _, q⟩ | q
      · exact .fTuple q
      · rcases q.1 with (q | ⟨o, q⟩) | ⟨o, its, n, q, c, _⟩
        · cases q
        · cases q
        · exact .kTuple q c
  | lst xs =>
    cases h
    cases r with
    | lst _ q rr => exact .base (.lst q)
  | _ => cases h
theorem c_isi (hK : z.K = X.K := by rfl) : CallD X z (.builtin "isinstance") fIsi := by
  refine ⟨_, call_isi, fun G S ps w vs Q h s su r k => ?_⟩
  rw [← hK]
  match ps, h with
  | [p, .raw (.ty n)], h =>
    obtain ⟨v, u, rfl, rp, rq⟩ := repL2 r
    cases rq
    have h' : ((tyN p).bind fun t => (subT t n).map PV.bl) = some w := h
    cases e : tyN p with
    | none => rw [e] at h'; cases h'
    | some t =>
      rw [e, Option.bind_some] at h'
      cases e2 : subT t n with
      | none => rw [e2] at h'; cases h'
      | some b =>
        rw [e2] at h'
        cases h'
        exact ⟨v, .ty n, .type t, .type n, b, rfl, .ty n, rep_ty rp e, kit_ty (sub_kit e e2), k _ G (.refl G) su (.bl b)⟩
/-- tuple(..), list(..) -/
def fTuple (S : Stt) (ps : List PV) : Option PV := match ps with
  | [p] => match res S p with
    | .tup xs => some (.tup xs)
    | .lst xs => some (.tup xs)
    | .scr ns => some (.tup (ns.map PV.int))
    | _ => none
  | _ => none
theorem c_tuple (hK : z.K = X.K := by rfl) : CallD X z (.type "tuple") fTuple := by
  refine ⟨_, call_tuple_ofN, fun G S ps w vs Q h s su r k => ?_⟩
  rw [← hK]
  have newT : ∀ (a : Addr) (ws : List V) (xs : List PV), SqL z.K G.H a ws → RepL z.K G xs ws → w = .tup xs → ∃ p ys, [V.ref a] = [.ref p] ∧ ((SqL z.K G.H p ys ∧ ∀ l o, G.H l = none → o.dict = none → Q (.ref l) (upd G.H l (.frz o (.tup ys)))) ∨ (SqT z.K G.H p ys ∧ Q (.ref p) G.H)) := fun a ws xs q rr e => by
    refine ⟨a, ws, rfl, .inl ⟨q, fun l o hn ho => ?_⟩⟩
    subst e
    have M := (Ext.frozen (o := .frz o (.tup ws)) hn).mon su
    exact k (.ref l) (G.frozen l (.frz o (.tup ws))) (Ext.frozen hn) (sure_frozen su hn) (.tup (.inl ⟨.inr rfl, o, ho, upd_same⟩) (rr.mon M))
  match ps, h with
  | [p], h =>
    obtain ⟨v, rfl, rp⟩ := repL1 r
    cases p with
    | tup xs =>
      cases h
      obtain ⟨a, vs, rfl, q, rr⟩ := rp.sqT
      exact ⟨a, vs, rfl, .inr ⟨q, k _ G (.refl G) su rp⟩⟩
    | lst xs =>
      cases h
      obtain ⟨a, vs, rfl, q, rr⟩ := rp.sqL
      exact newT a vs xs (SqL.of q) rr rfl
    | scr ns =>
      cases h
      obtain ⟨a, rfl, q⟩ := rp.sqS
      exact newT a _ _ q (RepL.ints ns) rfl
    | ref n =>
      unfold fTuple res at h
      cases e : S[n]? with
      | none => simp only [e] at h; cases h
      | some o =>
        cases o with
        | lst xs =>
          simp only [e] at h
          cases h
          obtain ⟨a, vs, rfl, _, q, rr⟩ := rp.sqR s e
          exact newT a vs xs (SqL.of q) rr rfl
    | _ => cases h
/-- list(..): a new list -/
def itemsOf (S : Stt) (p : PV) : Option (List PV) := match res S p with
  | .tup xs => some xs
  | .lst xs => some xs
  | .scr ns => some (ns.map PV.int)
  | _ => none
def dListF (d : Cd PV) : Cd (List PV) := bnd d fun p => fun e s => match itemsOf s p with
  | some xs => .ok xs e s
  | none => .bad
theorem items_rep {K : PySem.W.Frag} {G : Wd} {S : Stt} {p : PV} {xs : List PV} {v : V} (h : itemsOf S p = some xs) (s : RepS K G S) (r : Rep K G p v) : ∃ a vs, v = .ref a ∧ (SqL K G.H a vs ∨ SqT K G.H a vs) ∧ RepL K G xs vs := by
  cases p with
  | tup ys =>
    cases h
    obtain ⟨a, vs, rfl, q, rr⟩ := r.sqT
    exact ⟨a, vs, rfl, .inr q, rr⟩
  | lst ys =>
    cases h
    obtain ⟨a, vs, rfl, q, rr⟩ := r.sqL
    exact ⟨a, vs, rfl, .inl (SqL.of q), rr⟩
  | scr ns =>
    cases h
    obtain ⟨a, rfl, q⟩ := r.sqS
    exact ⟨a, _, rfl, .inl q, RepL.ints ns⟩
  | ref n =>
    unfold itemsOf res at h
    cases e : S[n]? with
    | none => simp only [e] at h; cases h
    | some o =>
      cases o with
      | lst ys =>
        simp only [e] at h
        cases h
        obtain ⟨a, vs, rfl, _, q, rr⟩ := r.sqR s e
        exact ⟨a, vs, rfl, .inl (SqL.of q), rr⟩
  | _ => cases h
theorem mf_list {d : Cd PV} (ha : ME X z e d) (hm : X.mg "list" = none) (hK : z.K = X.K := by rfl) (hg : Gl X "list" := by rfl) (hs : starEach [e] X.env = (false, eval e X.env) :: starEach [] X.env := by rfl) (hpl : (backTo pos (starEach [] X.env)).any (·.1) = false := by rfl) :
    MF X z (.Call (.Name "list" p) [e] [] pos) (dListF d) := by
  refine (pe_callTy (x := "list") call_list_of hg hm (by decide +kernel) (pa_cons ha pa_nil hs) (by decide) (by decide) hs hpl).imp fun σ H Q ⟨G, env, S, e, A, P⟩ => ?_
  subst e
  refine toE lwF A P fun p env1 S1 v G1 m1 A1 r1 P1 => ?_
  cases e : itemsOf S1 p with
  | none => simp only [e] at P1; exact P1.elim
  | some xs =>
    simp only [e] at P1
    obtain ⟨a, vs, rfl, q, rr⟩ := items_rep e A1.st r1
    refine ⟨a, vs, rfl, by rw [← hK]; exact q, fun l hn => ?_⟩
    have M : Mon G1 (G1.fresh l (.lst vs)) := (Ext.fresh hn).mon A1.sure
    have q := A1.alone (vs := vs) hn
    exact P1 l vs _ M (A1.fresh hn) (rr.mon M) q.at_ q.nf q.nm q.n0 q.no
end
end FS
set_option Elab.async false
set_option linter.all false
set_option maxRecDepth 100000
/-! FsMore: places held alone, shared lists changed, walks, comprehensions. -/
namespace FS
open PySem PySem.Spec L2
section
variable {z : Zx} {G : Wd} {env : Env} {S : Stt} {σ : St} {i n : Nat}
theorem list_set_self {α : Type} {l : List α} {i : Nat} {a : α} (h : l[i]? = some a) : l.set i a = l := by
  apply List.ext_getElem?
  intro j
  rw [getElem?_set']
  by_cases hj : i = j
  · subst hj
    rw [if_pos rfl, if_pos (List.getElem?_eq_some_iff.mp h).1, h]
  · rw [if_neg hj]
/-- a held list becomes a value -/
theorem At.soft {xs : List PV} (A : At z.K z.G0 G S env σ) (h : env[i]? = some (.own xs)) : ∃ a, σ[i]? = some (some (.ref a)) ∧ At z.K z.G0 (G.freeze a) S (env.set i (.val (.lst xs))) σ ∧ Rep z.K (G.freeze a) (.lst xs) (.ref a) := by
  obtain ⟨a, vs, e1, al, r⟩ := A.thaw h
  have A1 : At z.K z.G0 G S (env.set i .none) (σ.set i none) := A.setSlot (.inl rfl)
  have al1 : Alone z G (env.set i .none) (σ.set i none) a vs := ⟨al.at_, al.nf, al.nm, al.n0, fun j ho e => by
    rw [getElem?_set'] at e
    by_cases hj : i = j
    · obtain ⟨ys, ho⟩ := ho
      rw [getElem?_set', if_pos hj] at ho
      split at ho <;> cases ho
    · rw [if_neg hj] at e
      exact al.no j ho e⟩
  have A2 := A1.freeze al1
  have r2 : Rep z.K (G.freeze a) (.lst xs) (.ref a) := .lst (.inr rfl) al.at_ (r.mon mon_freeze)
  have A3 := A2.setVal (i := i) r2
  rw [List.set_set, List.set_set, list_set_self e1] at A3
  exact ⟨a, e1, A3, r2⟩
/-- a held list changed -/
theorem At.pokeOwn {xs xs' : List PV} {a : Addr} {vs' : List V} (A : At z.K z.G0 G S env σ) (h : env[i]? = some (.own xs)) (e : σ[i]? = some (some (.ref a))) (r : RepL z.K G xs' vs') :
    Mon G ⟨G.m, G.fz, upd G.H a (.lst vs'), G.T⟩ ∧ At z.K z.G0 ⟨G.m, G.fz, upd G.H a (.lst vs'), G.T⟩ S (env.set i (.own xs')) σ := by
  obtain ⟨b, vs, e1, e2, r1, n1, n2⟩ := A.en.own i xs h
  rw [e] at e1
  cases e1
  have M : Mon G ⟨G.m, G.fz, upd G.H a (.lst vs'), G.T⟩ := ⟨⟨[], by simp⟩, fun c hc => ⟨hc, upd_ne (fun z => n1 (by rw [← z]; exact hc))⟩⟩
  have n0 := A.mine i a ⟨xs, h⟩ e
  have iown : ∀ j, IsOwn (env.set i (.own xs')) j → IsOwn env j := fun j ⟨ys, q⟩ => by
    rw [getElem?_set'] at q
    by_cases hj : i = j
    · subst hj; exact ⟨xs, h⟩
    · rw [if_neg hj] at q; exact ⟨ys, q⟩
  refine ⟨M, ⟨A.st.len, A.st.nd, A.st.nf, fun j c o h1 h2 => ?_⟩, ⟨by rw [List.length_set]; exact A.en.len, fun j p q => ?_, fun j ys q => ?_, fun j b d w q => ?_, fun j k c h1 h2 q1 q2 => A.en.dis j k c (iown j h1) (iown k h2) q1 q2⟩, ⟨A.ent.pre, A.ent.new, A.ent.fz, A.ent.fzn, fun c o h1 nt h2 => ?_, fun c hc => ?_, A.ent.T, fun h => tabs_poke e2 (A.ent.tb h)⟩, fun j c h1 q => A.mine j c (iown j h1) q, fun c hc => ?_⟩
  · have q := A.st.ob j c o h1 h2
    have hne : c ≠ a := fun z => n2 (by rw [← z]; exact List.mem_of_getElem? h1)
    show RepO z.K _ o (upd G.H a (.lst vs') c)
    rw [upd_ne hne]
    exact q.mono M
  · rw [getElem?_set'] at q
    by_cases hj : i = j
    · rw [if_pos hj] at q
      split at q <;> cases q
    · rw [if_neg hj] at q
      obtain ⟨v, q1, q2⟩ := A.en.val j p q
      exact ⟨v, q1, q2.mon M⟩
  · rw [getElem?_set'] at q
    by_cases hj : i = j
    · subst hj
      rw [if_pos rfl] at q
      split at q
      · cases q
        exact ⟨a, vs', e, upd_same, r.mon M, n1, n2⟩
      · cases q
    · rw [if_neg hj] at q
      obtain ⟨c, ws, q1, q2, q3, q4, q5⟩ := A.en.own j ys q
      have hne : c ≠ a := fun z => hj (A.en.dis i j a ⟨xs, h⟩ ⟨ys, q⟩ e (by rw [q1, z]))
      exact ⟨c, ws, q1, (upd_ne hne).trans q2, q3.mon M, q4, q5⟩
  · rw [getElem?_set'] at q
    by_cases hj : i = j
    · rw [if_pos hj] at q
      split at q <;> cases q
    · rw [if_neg hj] at q
      obtain ⟨q1, q2, v, q3, q4⟩ := A.en.exc j b d w q
      have hne : d ≠ a := fun z => n1 (by rw [← z]; exact q2)
      exact ⟨q1, q2, v, (upd_ne hne).trans q3, q4.mon M⟩
  · have hne : c ≠ a := fun z => by rw [z] at h1; exact n0.no h1 nt
    exact (upd_ne hne).trans (A.ent.keep c o h1 nt h2)
  · exact A.ent.there c (nu_poke hc)
  · have hne : c ≠ a := fun z => n1 (by rw [← z]; exact hc)
    obtain ⟨o, q, nt⟩ := A.sure c hc
    exact ⟨o, (upd_ne hne).trans q, nt⟩
/-- a shared list changed -/
theorem At.poke {xs' : List PV} {xs : List PV} {a : Addr} {vs' : List V} (A : At z.K z.G0 G S env σ) (hm : G.m[n]? = some a) (h : S[n]? = some (.lst xs)) (r : RepL z.K G xs' vs') :
    Mon G ⟨G.m, G.fz, upd G.H a (.lst vs'), G.T⟩ ∧ At z.K z.G0 ⟨G.m, G.fz, upd G.H a (.lst vs'), G.T⟩ (S.set n (.lst xs')) env σ := by
  have ham : a ∈ G.m := List.mem_of_getElem? hm
  have n1 := A.st.nf a ham
  obtain ⟨vs0, ea, _⟩ : RepO z.K G (.lst xs) (G.H a) := A.st.ob n a _ hm h
  have M : Mon G ⟨G.m, G.fz, upd G.H a (.lst vs'), G.T⟩ := ⟨⟨[], by simp⟩, fun c hc => ⟨hc, upd_ne (fun z => n1 (by rw [← z]; exact hc))⟩⟩
  refine ⟨M, ⟨by rw [List.length_set]; exact A.st.len, A.st.nd, A.st.nf, fun j c o h1 h2 => ?_⟩, A.en.over M fun j c ho e => ?_, ⟨A.ent.pre, A.ent.new, A.ent.fz, A.ent.fzn, fun c o h1 nt h2 => ?_, fun c hc => ?_, A.ent.T, fun h => tabs_poke ea (A.ent.tb h)⟩, A.mine, fun c hc => ?_⟩
  · rw [getElem?_set'] at h2
    by_cases hj : n = j
    · subst hj
      rw [if_pos rfl] at h2
      have e : c = a := by
        have : G.m[n]? = some c := h1
        rw [hm] at this
        exact (Option.some.inj this).symm
      split at h2
      · cases h2
        subst e
        exact ⟨vs', upd_same, r.mon M⟩
      · cases h2
    · rw [if_neg hj] at h2
      have hne : c ≠ a := fun z => hj (by
        have h1' : G.m[j]? = some c := h1
        obtain ⟨l1, q1⟩ := List.getElem?_eq_some_iff.mp hm
        obtain ⟨l2, q2⟩ := List.getElem?_eq_some_iff.mp h1'
        exact (List.getElem_inj A.st.nd).mp (by rw [q1, q2, z]))
      show RepO z.K _ o (upd G.H a (.lst vs') c)
      rw [upd_ne hne]
      exact (A.st.ob j c o h1 h2).mono M
  · obtain ⟨ys, ho⟩ := ho
    obtain ⟨b, ws, q1, q2, _, q4, q5⟩ := A.en.own j ys ho
    rw [e] at q1
    cases q1
    exact ⟨upd_ne (fun z => q5 (by rw [z]; exact ham)), q4, q5⟩
  · have hne : c ≠ a := fun z => by
      rcases A.ent.new a ham with q | q
      · exact h2 (by rw [z]; exact q)
      · rw [z] at h1; exact q.no h1 nt
    exact (upd_ne hne).trans (A.ent.keep c o h1 nt h2)
  · exact A.ent.there c (nu_poke hc)
  · have hne : c ≠ a := fun z => n1 (by rw [← z]; exact hc)
    obtain ⟨o, q, nt⟩ := A.sure c hc
    exact ⟨o, (upd_ne hne).trans q, nt⟩
end
section
variable {X : Cx} {z : Zx} {pos p apos cpos : Pos}
/-- a name's value; a list that the name alone held is a value from here on -/
def dUse (i : Nat) : Cd PV := fun e s => match e[i]? with
  | some (.val p) => .ok p e s
  | some (.own xs) => .ok (.lst xs) (e.set i (.val (.lst xs))) s
  | _ => .bad
theorem me_use (i : Nat) {x : Str} (hN : X.N[i]? = some x := by rfl) (hv : Vis X.env.scope x := by first | exact Or.inl rfl | exact Or.inr (Or.inl rfl) | exact Or.inr (Or.inr rfl)) (hd : (x == ("__debug__" : Str)) = false := by decide)
    (hcd : (x == ("__classdict__" : Str)) = false := by decide) : ME X z (.Name x pos) (dUse i) := by
  refine (pe_var hN hv hd hcd).imp fun σ H Q ⟨G, env, S, e, A, P⟩ => ?_
  unfold dUse at P
  subst e
  cases q : env[i]? with
  | none => rw [q] at P; exact P.elim
  | some s =>
    rw [q] at P
    cases s with
    | none => exact P.elim
    | exc a d w => exact P.elim
    | val p =>
      obtain ⟨v, e1, r⟩ := A.en.val i p q
      exact ⟨v, e1, P v G (Mon.refl G) A r⟩
    | own xs =>
      obtain ⟨a, e1, A1, r⟩ := A.soft q
      exact ⟨_, e1, P (.ref a) (G.freeze a) mon_freeze A1 r⟩
/-! ### methods of lists -/
def MthD (X : Cx) (id : String) (mf : List PV → List PV → Option (PV × List PV)) : Prop :=
  ∃ r : V → List V → Hp → VK → Prop, MtR X id r ∧ ∀ (K : PySem.W.Frag) (G : Wd) (a : Addr) (vs : List V) (xs ps : List PV) (ws : List V) (w : PV) (xs' : List PV) (Q : VK), mf xs ps = some (w, xs') → G.H a = some (.lst vs) → RepL K G xs vs → RepL K G ps ws →
    (∀ v vs', Rep K G w v → RepL K G xs' vs' → Q v (upd G.H a (.lst vs'))) → r (.ref a) ws G.H Q
def mAppend : List PV → List PV → Option (PV × List PV) := fun xs ps => match ps with
  | [p] => if xs.length < sizeLine then some (.non, xs ++ [p]) else none
  | _ => none
theorem m_append : MthD X "list.append" mAppend := by
  refine ⟨_, mt_append, fun K G a vs xs ps ws w xs' Q h ha r rp k => ?_⟩
  match ps, h with
  | [p], h =>
    obtain ⟨v, rfl, r1⟩ := repL1 rp
    simp only [mAppend] at h
    split at h
    · rename_i hl
      cases h
      exact ⟨a, vs, v, rfl, rfl, ha, by rw [← r.length]; exact hl, k _ _ .non (r.snoc r1)⟩
    · cases h
def mPopAt : List PV → List PV → Option (PV × List PV) := fun xs ps => match ps with
  | [.int i] => if -1048576 < i ∧ i < 1048576 then (match ixN xs.length i with
    | some j => (xs[j]?).map fun p => (p, xs.eraseIdx j)
    | none => none) else none
  | _ => none
theorem m_popAt : MthD X "list.pop" mPopAt := by
  refine ⟨_, mt_popAt, fun K G a vs xs ps ws w xs' Q h ha r rp k => ?_⟩
  match ps, h with
  | [.int i], h =>
    obtain ⟨v, rfl, r1⟩ := repL1 rp
    cases r1
    simp only [mPopAt] at h
    split at h
    · rename_i hl
      cases e : ixN xs.length i with
      | none => rw [e] at h; cases h
      | some j =>
        rw [e] at h
        obtain ⟨h1, h2, h3, h4⟩ := ixN_seq e
        cases e2 : xs[j]? with
        | none => simp only [e2] at h; cases h
        | some p =>
          simp only [e2, Option.map_some] at h
          cases h
          obtain ⟨v, e3, r3⟩ := r.get e2
          have e63 : (2 : Int) ^ 63 = 9223372036854775808 := by decide
          exact ⟨a, vs, i, j, v, rfl, rfl, ha, by rw [e63]; omega, by rw [e63]; omega, by rw [← r.length]; exact h1, e3, k v _ r3 (r.erase j)⟩
    · cases h
variable {o e : Expr} {es : List Expr} {da : Cd (List PV)} {d : Cd PV} {name : Str} {id : String} {mf : List PV → List PV → Option (PV × List PV)}
/-- x.m(..), x a list that its name alone holds -/
def dMthO (i : Nat) (mf : List PV → List PV → Option (PV × List PV)) (da : Cd (List PV)) : Cd PV := fun e s => match e[i]? with
  | some (.own _) => bnd da (fun ps => fun e s => match e[i]? with
    | some (.own xs) => match mf xs ps with
      | some (w, xs') => .ok w (e.set i (.own xs')) s
      | none => .bad
    | _ => .bad) e s
  | _ => .bad
theorem me_mthO (i : Nat) {x : Str} {slot : PySem.Slot "list" name id} (M : MthD X id mf) (hty : typeOf (.builtin id) = pure (.type "method_descriptor")) (ha : MA X z (e :: es) da)
    (hN : X.N[i]? = some x := by rfl) (hv : Vis X.env.scope x := by first | exact Or.inl rfl | exact Or.inr (Or.inl rfl) | exact Or.inr (Or.inr rfl)) (hd : (x == ("__debug__" : Str)) = false := by decide)
    (hcd : (x == ("__classdict__" : Str)) = false := by decide)
    (hbase : attributeBase (.Name x p) name X.env (eval (.Name x p) X.env) = eval (.Name x p) X.env := by rfl)
    (hfew : ((backTo cpos (starEach (e :: es) X.env)).all (fun x => !x.1) && (backToKw cpos (keywordEach [] X.env)).all (fun x => x.1.isSome)
      && decide ((e :: es).length + ([] : List Keyword).length + (if ([] : List Keyword).isEmpty then 0 else 1) < 30)) = true := by rfl)
    (hline : (apos.endLine == cpos.line) = true := by rfl) (hs : starEach (e :: es) X.env = (false, eval e X.env) :: starEach es X.env := by rfl) (hplain : (backTo cpos (starEach es X.env)).any (·.1) = false := by rfl) :
    ME X z (.Call (.Attribute (.Name x p) name apos) (e :: es) [] cpos) (dMthO i mf da) := by
  obtain ⟨r, hm, k⟩ := M
  refine (pe_bm PySem.F.plainAttrs_list slot hty hm (pe_var hN hv hd hcd) ha hbase hfew hline hs hplain).imp fun σ H Q ⟨G, env, S, e, A, P⟩ => ?_
  subst e
  unfold dMthO at P
  cases q : env[i]? with
  | none => simp only [q] at P; exact P.elim
  | some sl =>
    cases sl with
    | none => simp only [q] at P; exact P.elim
    | exc a d w => simp only [q] at P; exact P.elim
    | val p => simp only [q] at P; exact P.elim
    | own xs =>
      simp only [q] at P
      obtain ⟨a, vs, e1, e2, _⟩ := A.en.own i xs q
      refine ⟨.ref a, e1, .inl ⟨rfl, vs, SqL.of e2⟩, ?_⟩
      refine toA lwE A P fun ps env1 S1 ws G1 m1 A1 r1 P1 => ?_
      cases q1 : env1[i]? with
      | none => simp only [q1] at P1; exact P1.elim
      | some sl =>
        cases sl with
        | none => simp only [q1] at P1; exact P1.elim
        | val p => simp only [q1] at P1; exact P1.elim
        | exc a d w => simp only [q1] at P1; exact P1.elim
        | own ys =>
          simp only [q1] at P1
          cases e : mf ys ps with
          | none => simp only [e] at P1; exact P1.elim
          | some wx =>
            obtain ⟨w, xs'⟩ := wx
            simp only [e] at P1
            obtain ⟨b, us, f1, f2, f3, _⟩ := A1.en.own i ys q1
            rw [e1] at f1
            cases f1
            refine k z.K G1 a us ys ps ws w xs' Q e f2 f3 r1 fun v vs' rv rx => ?_
            obtain ⟨M, A2⟩ := A1.pokeOwn q1 e1 rx
            exact P1 v _ M A2 (rv.mon M)
/-- o.m(..), o a shared list -/
def dMthR (mf : List PV → List PV → Option (PV × List PV)) (d : Cd PV) (da : Cd (List PV)) : Cd PV := bnd d fun p => match p with
  | .ref n => fun e s => match s[n]? with
    | some (.lst _) => bnd da (fun ps => fun e s => match s[n]? with
      | some (.lst xs) => match mf xs ps with
        | some (w, xs') => .ok w e (s.set n (.lst xs'))
        | none => .bad
      | none => .bad) e s
    | none => .bad
  | _ => fun _ _ => .bad
theorem me_mthR {slot : PySem.Slot "list" name id} (M : MthD X id mf) (hty : typeOf (.builtin id) = pure (.type "method_descriptor")) (ho : ME X z o d) (ha : MA X z (e :: es) da) (hK : z.K = X.K := by rfl)
    (hbase : attributeBase o name X.env (eval o X.env) = eval o X.env := by rfl)
    (hfew : ((backTo cpos (starEach (e :: es) X.env)).all (fun x => !x.1) && (backToKw cpos (keywordEach [] X.env)).all (fun x => x.1.isSome)
      && decide ((e :: es).length + ([] : List Keyword).length + (if ([] : List Keyword).isEmpty then 0 else 1) < 30)) = true := by rfl)
    (hline : (apos.endLine == cpos.line) = true := by rfl) (hs : starEach (e :: es) X.env = (false, eval e X.env) :: starEach es X.env := by rfl) (hplain : (backTo cpos (starEach es X.env)).any (·.1) = false := by rfl) :
    ME X z (.Call (.Attribute o name apos) (e :: es) [] cpos) (dMthR mf d da) := by
  obtain ⟨r, hm, k⟩ := M
  refine (pe_bm PySem.F.plainAttrs_list slot hty hm ho ha hbase hfew hline hs hplain).imp fun σ H Q ⟨G, env, S, e, A, P⟩ => ?_
  subst e
  refine toE lwE A P fun p env1 S1 v G1 m1 A1 r1 P1 => ?_
  cases p with
  | ref n =>
    cases q : S1[n]? with
    | none => simp only [q] at P1; exact P1.elim
    | some so =>
      cases so with
      | lst xs =>
        simp only [q] at P1
        obtain ⟨a, vs, rfl, hmn, e2, _⟩ := r1.sqR A1.st q
        refine ⟨.inl ⟨rfl, vs, SqL.of e2⟩, ?_⟩
        refine toA lwE A1 P1 fun ps env2 S2 ws G2 m2 A2 r2 P2 => ?_
        cases q2 : S2[n]? with
        | none => simp only [q2] at P2; exact P2.elim
        | some so =>
          cases so with
          | lst ys =>
            simp only [q2] at P2
            cases e : mf ys ps with
            | none => simp only [e] at P2; exact P2.elim
            | some wx =>
              obtain ⟨w, xs'⟩ := wx
              simp only [e] at P2
              obtain ⟨b, us, eb, hm2, f2, f3⟩ := (r1.mon m2).sqR A2.st q2
              cases eb
              refine k z.K G2 a us ys ps ws w xs' Q e f2 f3 r2 fun v vs' rv rx => ?_
              obtain ⟨M, A3⟩ := A2.poke hm2 q2 rx
              exact P2 v _ M A3 (rv.mon M)
  | _ => exact P1.elim
/-! ### o[i] = e -/
variable {oi ei : Expr} {di dv : Cd PV}
/-- x[k] = v, x a list that its name alone holds -/
def dSetO (i : Nat) (di dv : Cd PV) : Cd Flw := bnd dv fun w => fun e s => match e[i]? with
  | some (.own _) => bnd di (fun k => fun e s => match e[i]?, k with
    | some (.own xs), .int k => match ixN xs.length k with
      | some j => .ok .next (e.set i (.own (xs.set j w))) s
      | none => .bad
    | _, _ => .bad) e s
  | _ => .bad
/-- o[k] = v, o a shared list -/
def dSetR (d di dv : Cd PV) : Cd Flw := bnd dv fun w => bnd d fun p => bnd di fun k => fun e s => match p, k with
  | .ref n, .int k => match s[n]? with
    | some (.lst xs) => match ixN xs.length k with
      | some j => .ok .next e (s.set n (.lst (xs.set j w)))
      | none => .bad
    | none => .bad
  | _, _ => .bad
theorem ms_setR {tpos : Pos} (hv : ME X z ei dv) (ho : ME X z o d) (hi : ME X z oi di) (hK : z.K = X.K := by rfl)
    (ha : ∀ v, assign (.Subscript o oi tpos) X.env v = (do
      let ov ← holding [v] (eval o X.env)
      let iv ← holding [v, ov] (eval oi X.env)
      standAt tpos
      holding [v, ov, iv] (setItem ov iv v)
      release [v, ov, iv] []) := by intro _; rfl)
    (hs : swapsWithSole [.Subscript o oi tpos] ei pos.line X.env = pure false := by rfl) (hw : swappedStores [.Subscript o oi tpos] ei X.env = pure none := by rfl)
    (h1 : (assignEach [.Subscript o oi tpos] X.env).map (·.2) = [assign (.Subscript o oi tpos) X.env] := by rfl) :
    MS X z (.Assign [.Subscript o oi tpos] ei pos) (dSetR d di dv) := by
  refine PS.imp (ps_asg hv (pg_sub ho hi set_list ha) hs hw h1) fun D σ H ⟨G, env, S, e, A, P⟩ => ?_
  subst e
  refine toE lwS A P fun w env1 S1 v G1 m1 A1 r1 P1 => toE lwS A1 P1 fun p env2 S2 u G2 m2 A2 r2 P2 => toE lwS A2 P2 fun k env3 S3 y G3 m3 A3 r3 P3 => ?_
  cases p with
  | ref n =>
    cases k with
    | int k =>
      cases r3
      cases q : S3[n]? with
      | none => simp only [q] at P3; exact P3.elim
      | some so =>
        cases so with
        | lst xs =>
          simp only [q] at P3
          cases e : ixN xs.length k with
          | none => simp only [e] at P3; exact P3.elim
          | some j =>
            simp only [e] at P3
            obtain ⟨a, us, rfl, hm, f2, f3⟩ := (r2.mon m3).sqR A3.st q
            obtain ⟨M, A4⟩ := A3.poke hm q (f3.set j (r1.mon (m2.trans m3)))
            exact ⟨a, us, k, j, rfl, rfl, f2, by rw [← f3.length]; exact e, P3 σ _ M A4⟩
    | _ => exact P3.elim
  | _ => cases k <;> exact P3.elim
/-! ### what a for walks -/
variable {tg : Expr}
theorem enum_list {K : PySem.W.Frag} {G : Wd} {a : Addr} {vs : List V} {ps : List PV} (r : RepL K G ps vs) (h : ∀ G1, Mon G G1 → SqL K G1.H a vs) : Enum K (Itl K a) G ps :=
  ⟨fun i G1 M hl => ⟨vs, h G1 M, by rw [← r.length]; exact hl⟩, fun i p G1 M su e => by
    obtain ⟨v, e1, r1⟩ := r.get e
    refine ⟨⟨vs, v, h G1 M, e1⟩, fun x H' y => ⟨G1, y.1.symm, .refl G1, su, ?_⟩⟩
    have := y.2 vs (h G1 M)
    rw [e1] at this
    cases this
    exact r1.mon M⟩
theorem enum_tup {K : PySem.W.Frag} {G : Wd} {a : Addr} {vs : List V} {ps : List PV} (r : RepL K G ps vs) (h : ∀ G1, Mon G G1 → SqT K G1.H a vs) : Enum K (Itt K a) G ps :=
  ⟨fun i G1 M hl => ⟨vs, h G1 M, by rw [← r.length]; exact hl⟩, fun i p G1 M su e => by
    obtain ⟨v, e1, r1⟩ := r.get e
    refine ⟨⟨vs, v, h G1 M, e1⟩, fun x H' y => ⟨G1, y.1.symm, .refl G1, su, ?_⟩⟩
    have := y.2 vs (h G1 M)
    rw [e1] at this
    cases this
    exact r1.mon M⟩
/-- a frozen list or tuple's items, wherever it is read -/
def itemsF : PV → Option (List PV)
  | .tup xs => some xs
  | .lst xs => some xs
  | .scr ns => some (ns.map PV.int)
  | _ => none
theorem itemsF_rep {K : PySem.W.Frag} {G : Wd} {p : PV} {xs : List PV} {v : V} (h : itemsF p = some xs) (r : Rep K G p v) :
    ∃ a vs, v = .ref a ∧ RepL K G xs vs ∧ ((∀ G1, Mon G G1 → SqL K G1.H a vs) ∨ (∀ G1, Mon G G1 → SqT K G1.H a vs)) := by
  cases p with
  | tup ys =>
    cases h
    cases r with
    | tup hh rr =>
      refine ⟨_, _, rfl, rr, .inr fun G1 M => ?_⟩
      exact (hh.mon M).sq
  | lst ys =>
    cases h
    cases r with
    | lst h1 h2 rr => exact ⟨_, _, rfl, rr, .inl fun G1 M => SqL.of (((M.fz _ h1).2).trans h2)⟩
  | scr ns =>
    cases h
    obtain ⟨a, rfl, q⟩ := r.scrM
    exact ⟨a, _, rfl, RepL.ints ns, .inl q⟩
  | _ => cases h
def dItems (d : Cd PV) : Cd (List PV) := bnd d fun p => lift (itemsF p)
theorem mi_val (he : ME X z e d) (hK : z.K = X.K := by rfl) : MI X z tg e (dItems d) := by
  refine PI.imp (PI.or (pi_list he) (pi_tup he)) fun σ H R ⟨G, env, S, e, A, P⟩ => ?_
  subst e
  unfold dItems bnd at P
  cases e : d env S with
  | bad => rw [e] at P; exact P.elim
  | raise c w e1 s1 =>
    rw [e] at P
    exact .inl ⟨G, env, S, rfl, A, by rw [e]; exact P⟩
  | ok p env1 S1 =>
    rw [e] at P
    unfold lift Out.bind at P
    cases q : itemsF p with
    | none => simp only [q] at P; exact P.elim
    | some xs =>
      simp only [q] at P
      by_cases ht : ∃ ys, p = .tup ys
      · obtain ⟨ys, rfl⟩ := ht
        cases q
        refine .inr ⟨G, env, S, rfl, A, ?_⟩
        rw [e]
        intro v G1 m1 A1 r1
        obtain ⟨a, vs, rfl, hq, rr⟩ := r1.sqT
        cases r1 with
        | tup hh rr' =>
          have hst : ∀ G2, Mon G1 G2 → SqT z.K G2.H a _ := fun G2 M => (hh.mon M).sq
          refine ⟨a, rfl, ⟨_, by rw [← hK]; exact hst G1 (Mon.refl _)⟩, ?_⟩
          rw [← hK]
          exact P _ G1 m1 A1 (enum_tup rr' hst)
      · refine .inl ⟨G, env, S, rfl, A, ?_⟩
        rw [e]
        intro v G1 m1 A1 r1
        obtain ⟨a, vs, rfl, rr, hst⟩ := itemsF_rep q r1
        rcases hst with hst | hst
        · refine ⟨a, rfl, ⟨vs, by rw [← hK]; exact hst G1 (Mon.refl _)⟩, ?_⟩
          rw [← hK]
          exact P _ G1 m1 A1 (enum_list rr hst)
        · cases p with
          | tup ys => exact absurd ⟨ys, rfl⟩ ht
          | lst ys =>
            cases r1 with
            | lst h1 h2 rr2 =>
              cases q
              have hst : ∀ G2, Mon G1 G2 → SqL z.K G2.H a _ := fun G2 M => SqL.of (((M.fz _ h1).2).trans h2)
              refine ⟨a, rfl, ⟨_, by rw [← hK]; exact hst G1 (Mon.refl _)⟩, ?_⟩
              rw [← hK]
              exact P _ G1 m1 A1 (enum_list rr2 hst)
          | scr ns =>
            obtain ⟨a', ea, hst⟩ := r1.scrM
            cases ea
            · cases q
              refine ⟨a, rfl, ⟨_, by rw [← hK]; exact hst G1 (Mon.refl _)⟩, ?_⟩
              rw [← hK]
              exact P _ G1 m1 A1 (enum_list (RepL.ints ns) hst)
          | _ => cases q
theorem enum_range {K : PySem.W.Frag} {G : Wd} (lo : Int) (n : Nat) : Enum K (Itr lo n) G ((List.range n).map fun (i : Nat) => PV.int (lo + i)) :=
  ⟨fun i G1 M hl => (by simpa using hl : n ≤ i), fun i p G1 M su e => by
    have hi : i < n := by
      have := (List.getElem?_eq_some_iff.mp e).1
      simpa using this
    refine ⟨hi, fun x H' y => ⟨G1, y.1.symm, .refl G1, su, ?_⟩⟩
    rw [y.2]
    have : p = .int (lo + i) := by
      rw [List.getElem?_map, List.getElem?_range hi] at e
      exact (Option.some.inj e).symm
    rw [this]
    exact .int _⟩
def okR (i : Int) : Bool := decide (-1073741824 < i) && decide (i < 1073741824)
theorem okR_b {i : Int} (h : okR i = true) : -(2 ^ 62) ≤ i ∧ i < 2 ^ 62 := by
  unfold okR at h
  simp only [Bool.and_eq_true, decide_eq_true_eq] at h
  have e : (2 : Int) ^ 62 = 4611686018427387904 := by decide
  rw [e]
  omega
/-- range(j), range(i, j) -/
def rng1 (ps : List PV) : Option (List PV) := match ps with
  | [.int j] => if okR j = true then some ((List.range j.toNat).map fun (i : Nat) => PV.int i) else none
  | _ => none
def rng2 (ps : List PV) : Option (List PV) := match ps with
  | [.int i, .int j] => if (okR i && okR j) = true then some ((List.range (j - i).toNat).map fun (k : Nat) => PV.int (i + k)) else none
  | _ => none
def dRng1 (d : Cd (List PV)) : Cd (List PV) := bnd d fun ps => lift (rng1 ps)
def dRng2 (d : Cd (List PV)) : Cd (List PV) := bnd d fun ps => lift (rng2 ps)
theorem mi_range1 {a : Expr} (hm : X.mg "range" = none) (ha : MA X z [a] da) (hg : Gl X "range" := by rfl) (hs : starEach [a] X.env = [(false, eval a X.env)] := by rfl) : MI X z tg (.Call (.Name "range" p) [a] [] pos) (dRng1 da) := by
  refine PI.imp (pi_range1 hg hm ha hs) fun σ H R ⟨G, env, S, e, A, P⟩ => ?_
  subst e
  refine toA lwI A P fun ps env1 S1 vs G1 m1 A1 r1 P1 => ?_
  unfold lift at P1
  cases e : rng1 ps with
  | none => simp only [e] at P1; exact P1.elim
  | some qs =>
    simp only [e] at P1
    match ps, e with
    | [.int j], e =>
      obtain ⟨v, rfl, r2⟩ := repL1 r1
      cases r2
      simp only [rng1] at e
      by_cases hj : okR j = true
      · rw [if_pos hj] at e
        cases e
        obtain ⟨h1, h2⟩ := okR_b hj
        refine ⟨j, rfl, h1, h2, P1 _ G1 (Mon.refl _) A1 ?_⟩
        have := enum_range (K := z.K) (G := G1) 0 j.toNat
        simpa using this
      · rw [if_neg hj] at e
        cases e
/-- zip of two lists, of two tuples -/
def isT : PV → Bool
  | .tup _ => true
  | _ => false
def zip2 (ps : List PV) : Option (List PV) := match ps with
  | [p, q] => match itemsF p, itemsF q with
    | some xs, some ys => if isT p = isT q then some ((xs.zip ys).map fun c => PV.tuz [c.1, c.2]) else none
    | _, _ => none
  | _ => none
def dZip (d : Cd (List PV)) : Cd (List PV) := bnd d fun ps => lift (zip2 ps)
theorem itemsF_L {K : PySem.W.Frag} {G : Wd} {p : PV} {xs : List PV} {v : V} (h : itemsF p = some xs) (hp : isT p = false) (r : Rep K G p v) : ∃ a vs, v = .ref a ∧ RepL K G xs vs ∧ ∀ G1, Mon G G1 → SqL K G1.H a vs := by
  cases p with
  | lst ys =>
    cases h
    cases r with
    | lst h1 h2 rr => exact ⟨_, _, rfl, rr, fun G1 M => SqL.of (((M.fz _ h1).2).trans h2)⟩
  | scr ns =>
    cases h
    obtain ⟨a, rfl, q⟩ := r.scrM
    exact ⟨a, _, rfl, RepL.ints ns, q⟩
  | tup ys => cases hp
  | _ => cases h
theorem itemsF_T {K : PySem.W.Frag} {G : Wd} {p : PV} {xs : List PV} {v : V} (h : itemsF p = some xs) (hp : isT p = true) (r : Rep K G p v) : ∃ a vs, v = .ref a ∧ RepL K G xs vs ∧ ∀ G1, Mon G G1 → SqT K G1.H a vs := by
  cases p with
  | tup ys =>
    cases h
    cases r with
    | tup hh rr =>
      refine ⟨_, _, rfl, rr, fun G1 M => ?_⟩
      exact (hh.mon M).sq
  | lst ys => cases hp
  | scr ns => cases hp
  | _ => cases h
theorem zip_get {α β : Type} : ∀ {xs : List α} {ys : List β} {i : Nat} {c : α × β}, (xs.zip ys)[i]? = some c → xs[i]? = some c.1 ∧ ys[i]? = some c.2
  | [], _, _, _, h => by simp at h
  | _ :: _, [], _, _, h => by simp at h
  | x :: xs, y :: ys, 0, c, h => by
    simp at h
    subst h
    exact ⟨rfl, rfl⟩
  | x :: xs, y :: ys, i + 1, c, h => by
    have := zip_get (xs := xs) (ys := ys) (i := i) (c := c) (by simpa using h)
    simpa using this
theorem pair_new {K : PySem.W.Frag} {G1 : Wd} {T : Addr} {x y : V} {p q : PV} (su : Sure G1) (hn : G1.H T = none) (r1 : Rep K G1 p x) (r2 : Rep K G1 q y) : Ext G1 (G1.frozen T (.tup [x, y])) ∧ Sure (G1.frozen T (.tup [x, y])) ∧ Rep K (G1.frozen T (.tup [x, y])) (.tuz [p, q]) (.ref T) := by
  have M : Mon G1 (G1.frozen T (.tup [x, y])) := (Ext.frozen hn).mon su
  exact ⟨Ext.frozen hn, sure_frozen su hn, .tuz (.inr rfl) upd_same (.cons (r1.mon M) (.cons (r2.mon M) .nil))⟩
/-- enumerate of a list -/
def enumL (ps : List PV) : List PV := (ps.zipIdx).map fun c => PV.tuz [.int c.2, c.1]
theorem enum_enum {K : PySem.W.Frag} {G : Wd} {a : Addr} {vs : List V} {xs : List PV} (r1 : RepL K G xs vs) (h1 : ∀ G1, Mon G G1 → SqL K G1.H a vs) : Enum K (Ite K a) G (enumL xs) :=
  ⟨fun i G1 M hl => ⟨vs, h1 G1 M, by
    unfold enumL at hl
    rw [List.length_map, List.length_zipIdx] at hl
    rw [← r1.length]
    exact hl⟩, fun i p G1 M su e => by
    unfold enumL at e
    rw [List.getElem?_map, List.getElem?_zipIdx] at e
    cases q : xs[i]? with
    | none => rw [q] at e; cases e
    | some c =>
      rw [q] at e
      simp only [Option.map_some, Nat.zero_add] at e
      cases e
      obtain ⟨v, f1, g1⟩ := r1.get q
      refine ⟨⟨vs, v, h1 G1 M, f1⟩, fun x H' y => ?_⟩
      obtain ⟨T, x1, rfl, hn, rfl, k1⟩ := y
      have := k1 vs (h1 G1 M)
      rw [f1] at this
      cases this
      obtain ⟨z1, z2, z3⟩ := pair_new su hn (.int _) (g1.mon M)
      exact ⟨_, rfl, z1, z2, z3⟩⟩
end
end FS
set_option Elab.async false
set_option linter.all false
set_option maxRecDepth 100000
/-! FsComp: list comprehensions. -/
namespace FS
open PySem PySem.Spec L2
/-! ### the frame's own things put aside -/
/-- the world as it stands, without what the frame alone holds -/
noncomputable def Wd.less (G : Wd) (env : Env) (σ : St) : Wd := ⟨G.m, G.fz, open Classical in fun a => if ∃ i, IsOwn env i ∧ σ[i]? = some (some (.ref a)) then none else G.H a, G.T⟩
section
variable {K : PySem.W.Frag} {G0 G G2 : Wd} {env env2 : Env} {S S2 : Stt} {σ σ2 : St}
theorem less_of {a : Addr} {o : HO} (h : (G.less env σ).H a = some o) : G.H a = some o ∧ ¬ ∃ i, IsOwn env i ∧ σ[i]? = some (some (.ref a)) := by
  unfold Wd.less at h
  simp only at h
  split at h
  · cases h
  · exact ⟨h, by assumption⟩
theorem less_none {a : Addr} (h : (G.less env σ).H a = none) : G.H a = none ∨ ∃ i, IsOwn env i ∧ σ[i]? = some (some (.ref a)) := by
  unfold Wd.less at h
  simp only at h
  split at h
  · exact .inr (by assumption)
  · exact .inl h
theorem less_same {a : Addr} (h : ¬ ∃ i, IsOwn env i ∧ σ[i]? = some (some (.ref a))) : (G.less env σ).H a = G.H a := by
  unfold Wd.less
  simp only
  rw [if_neg h]
theorem less_nu {a : Addr} (h : Nu (G.less env σ).H a) : Nu G.H a ∨ ∃ i, IsOwn env i ∧ σ[i]? = some (some (.ref a)) := by
  rcases h with h | ⟨ps, h⟩
  · exact (less_none h).imp .inl id
  · exact .inl (.inr ⟨ps, (less_of h).1⟩)
theorem At.aside (A : At K G0 G S env σ) : At K (G.less env σ) G S env σ := by
  have up : ∀ a o, (G.less env σ).H a = some o → G.H a = some o := fun a o h => (less_of h).1
  refine ⟨A.st, A.en, ⟨⟨[], by show G.m = G.m ++ []; simp⟩, fun a h => .inl h, fun a h => h, fun a h => .inl h, fun a o h _ _ => up a o h, fun a h => ?_, rfl, fun h p hp => (h p hp).ext up⟩, fun i a ho e => ?_, A.sure⟩
  · by_cases q : ∃ i, IsOwn env i ∧ σ[i]? = some (some (.ref a))
    · unfold Wd.less
      refine .inl ?_
      simp only
      rw [if_pos q]
    · rcases h with h | ⟨ps, h⟩
      · exact .inl (by rw [less_same q]; exact h)
      · exact .inr ⟨ps, by rw [less_same q]; exact h⟩
  · unfold Wd.less
    refine .inl ?_
    simp only
    rw [if_pos ⟨i, ho, e⟩]
theorem At.back (A : At K G0 G S env σ) (B : At K (G.less env σ) G2 S2 env2 σ2) : At K G0 G2 S2 env2 σ2 := by
  have up : ∀ a, Nu (G.less env σ).H a → Nu G0.H a := fun a h => by
    rcases less_nu h with h | ⟨i, ho, e⟩
    · exact A.ent.there a h
    · exact A.mine i a ho e
  have own : ∀ a o, G.H a = some o → (∀ vs, o ≠ .lst vs) → (G.less env σ).H a = some o := fun a o h hl => by
    rw [less_same]
    · exact h
    · intro ⟨i, ho, e⟩
      obtain ⟨xs, ho⟩ := ho
      obtain ⟨b, vs, e1, e2, _⟩ := A.en.own i xs ho
      rw [e] at e1; cases e1
      rw [h] at e2
      exact hl vs (Option.some.inj e2)
  refine ⟨B.st, B.en, ⟨?_, fun a h => ?_, fun a h => B.ent.fz a (A.ent.fz a h), fun a h => ?_, fun a o h nt hm => ?_, fun a h => up a (B.ent.there a h), B.ent.T.trans A.ent.T, fun h => ?_⟩, fun i a ho e => up a (B.mine i a ho e), B.sure⟩
  · obtain ⟨r, e⟩ := A.ent.pre
    obtain ⟨r', e'⟩ := B.ent.pre
    exact ⟨r ++ r', by rw [e']; show G.m ++ r' = _; rw [e, List.append_assoc]⟩
  · rcases B.ent.new a h with h | h
    · exact A.ent.new a h
    · exact .inr (up a h)
  · rcases B.ent.fzn a h with h | h
    · exact A.ent.fzn a h
    · exact .inr (up a h)
  · have h1 := A.ent.keep a o h nt hm
    have h2 : ¬ ∃ i, IsOwn env i ∧ σ[i]? = some (some (.ref a)) := fun ⟨i, ho, e⟩ => (A.mine i a ho e).no h nt
    refine B.ent.keep a o (by rw [less_same h2]; exact h1) nt fun h3 => ?_
    rcases A.ent.new a h3 with q | q
    · exact hm q
    · exact q.no h nt
  · have q := A.ent.tb h
    rw [← A.ent.T] at q ⊢
    refine B.ent.tb fun p hp => ?_
    obtain ⟨ps, h1, h2, h3⟩ := q p hp
    refine ⟨ps, own _ _ h1 (fun vs e => by cases e), h2, fun pos cv hc => ?_⟩
    obtain ⟨c, e1, e2⟩ := h3 pos cv hc
    exact ⟨c, e1, own _ _ e2 (fun vs e => by cases e)⟩
end
/-! ### the block's own names -/
def wipeE (env : Env) : List Nat → Env
  | [] => env
  | v :: vs => (wipeE env vs).set v .none
def keepS : Option Slot → Slot
  | some (.val p) => .val p
  | _ => .none
def restE (e1 e2 : Env) : List Nat → Env
  | [] => e2
  | v :: vs => (restE e1 e2 vs).set v (keepS e1[v]?)
section
variable {z : Zx} {G : Wd} {env e1 e2 : Env} {S : Stt} {σ : St}
theorem wipe_at (A : At z.K z.G0 G S env σ) : ∀ vs : List Nat, At z.K z.G0 G S (wipeE env vs) (wipe σ vs)
  | [] => A
  | v :: vs => by
    unfold wipeE wipe
    exact (wipe_at A vs).setSlot (.inl rfl)
theorem wipe_get {σ : St} {i : Nat} : ∀ vs : List Nat, (wipe σ vs)[i]? = if i ∈ vs then (if i < σ.length then some none else none) else σ[i]?
  | [] => by simp [wipe]
  | v :: vs => by
    unfold wipe
    rw [getElem?_set', wipe_length, wipe_get vs]
    by_cases h : v = i
    · subst h
      simp
    · rw [if_neg h]
      have : i ≠ v := fun e => h e.symm
      simp [this]
theorem wipe_id {σ : St} (vs : List Nat) : wipe (wipe σ vs) vs = wipe σ vs := by
  apply List.ext_getElem?
  intro i
  rw [wipe_get, wipe_get, wipe_length]
  by_cases h : i ∈ vs
  · rw [if_pos h, if_pos h]
  · rw [if_neg h, if_neg h]
theorem restE_length (e1 e2 : Env) : ∀ vs : List Nat, (restE e1 e2 vs).length = e2.length
  | [] => rfl
  | v :: vs => by
    unfold restE
    rw [List.length_set, restE_length e1 e2 vs]
theorem restE_get {e1 e2 : Env} {i : Nat} : ∀ vs : List Nat, (restE e1 e2 vs)[i]? = if i ∈ vs then (if i < e2.length then some (keepS e1[i]?) else none) else e2[i]?
  | [] => by simp [restE]
  | v :: vs => by
    unfold restE
    rw [getElem?_set', restE_length, restE_get vs]
    by_cases h : v = i
    · subst h
      simp
    · rw [if_neg h]
      have : i ≠ v := fun e => h e.symm
      simp [this]
theorem keepS_own {o : Option Slot} {xs : List PV} : keepS o ≠ .own xs := by
  intro h
  cases o with
  | none => cases h
  | some s => cases s <;> cases h
theorem keepS_exc {o : Option Slot} {a d : Addr} {w : PV} : keepS o ≠ .exc a d w := by
  intro h
  cases o with
  | none => cases h
  | some s => cases s <;> cases h
theorem keepS_val {o : Option Slot} {p : PV} (h : keepS o = .val p) : o = some (.val p) := by
  cases o with
  | none => cases h
  | some s =>
    cases s with
    | val q => cases h; rfl
    | none => cases h
    | own xs => cases h
    | exc a d w => cases h
theorem rest_own {σ : St} {vs : List Nat} {i : Nat} {xs : List PV} {a : Addr} (h : (restE e1 e2 vs)[i]? = some (.own xs)) : i ∉ vs ∧ e2[i]? = some (.own xs) := by
  rw [restE_get] at h
  by_cases hi : i ∈ vs
  · rw [if_pos hi] at h
    split at h
    · exact absurd (Option.some.inj h) keepS_own
    · cases h
  · rw [if_neg hi] at h
    exact ⟨hi, h⟩
/-- behind the block the names of the frame are as they were -/
theorem rest_at {G1 : Wd} {S1 : Stt} {vs : List Nat} (A1 : At z.K z.G0 G1 S1 e1 σ) (M : Mon G1 G) (A : At z.K z.G0 G S e2 (wipe σ vs)) : At z.K z.G0 G S (restE e1 e2 vs) σ := by
  have ow : ∀ (i : Nat) (xs : List PV), (restE e1 e2 vs)[i]? = some (.own xs) → e2[i]? = some (.own xs) ∧ (wipe σ vs)[i]? = σ[i]? := fun i xs h => by
    obtain ⟨h1, h2⟩ := rest_own (σ := σ) (a := 0) h
    exact ⟨h2, by rw [wipe_get, if_neg h1]⟩
  refine ⟨A.st, ⟨by rw [restE_length, A.en.len, wipe_length], fun i p h => ?_, fun i xs h => ?_, fun i b d w h => ?_, fun i j a h1 h2 q1 q2 => ?_⟩, A.ent, fun i a h q => ?_, A.sure⟩
  · rw [restE_get] at h
    by_cases hi : i ∈ vs
    · rw [if_pos hi] at h
      split at h
      · obtain ⟨v, q1, q2⟩ := A1.en.val i p (keepS_val (Option.some.inj h))
        exact ⟨v, q1, q2.mon M⟩
      · cases h
    · rw [if_neg hi] at h
      obtain ⟨v, q1, q2⟩ := A.en.val i p h
      rw [wipe_get, if_neg hi] at q1
      exact ⟨v, q1, q2⟩
  · obtain ⟨h1, h2⟩ := ow i xs h
    obtain ⟨a, ws, q1, q⟩ := A.en.own i xs h1
    rw [h2] at q1
    exact ⟨a, ws, q1, q⟩
  · rw [restE_get] at h
    by_cases hi : i ∈ vs
    · rw [if_pos hi] at h
      split at h
      · exact absurd (Option.some.inj h) keepS_exc
      · cases h
    · rw [if_neg hi] at h
      obtain ⟨q1, q2⟩ := A.en.exc i b d w h
      rw [wipe_get, if_neg hi] at q1
      exact ⟨q1, q2⟩
  · obtain ⟨xs, h1⟩ := h1
    obtain ⟨ys, h2⟩ := h2
    obtain ⟨h1, f1⟩ := ow i xs h1
    obtain ⟨h2, f2⟩ := ow j ys h2
    exact A.en.dis i j a ⟨xs, h1⟩ ⟨ys, h2⟩ (f1.trans q1) (f2.trans q2)
  · obtain ⟨xs, h⟩ := h
    obtain ⟨h, f⟩ := ow i xs h
    exact A.mine i a ⟨xs, h⟩ (f.trans q)
/-- a list that nobody else holds, changed -/
theorem At.pokeAlone {a : Addr} {vs vs' : List V} (A : At z.K z.G0 G S env σ) (al : Alone z G env σ a vs) : Mon G ⟨G.m, G.fz, upd G.H a (.lst vs'), G.T⟩ ∧ At z.K z.G0 ⟨G.m, G.fz, upd G.H a (.lst vs'), G.T⟩ S env σ ∧ Alone z ⟨G.m, G.fz, upd G.H a (.lst vs'), G.T⟩ env σ a vs' := by
  have M : Mon G ⟨G.m, G.fz, upd G.H a (.lst vs'), G.T⟩ := ⟨⟨[], by simp⟩, fun c hc => ⟨hc, upd_ne (fun z => al.nf (by rw [← z]; exact hc))⟩⟩
  refine ⟨M, ⟨⟨A.st.len, A.st.nd, A.st.nf, fun j c o h1 h2 => ?_⟩, A.en.over M fun j c ho e => ?_, ⟨A.ent.pre, A.ent.new, A.ent.fz, A.ent.fzn, fun c o h1 nt h2 => ?_, fun c hc => ?_, A.ent.T, fun h => tabs_poke al.at_ (A.ent.tb h)⟩, A.mine, fun c hc => ?_⟩, ⟨upd_same, al.nf, al.nm, al.n0, al.no⟩⟩
  · have hne : c ≠ a := fun z => al.nm (by rw [← z]; exact List.mem_of_getElem? h1)
    show RepO z.K _ o (upd G.H a (.lst vs') c)
    rw [upd_ne hne]
    exact (A.st.ob j c o h1 h2).mono M
  · have hne : c ≠ a := fun z => al.no j ho (by rw [e, z])
    obtain ⟨ys, ho⟩ := ho
    obtain ⟨b, ws, q1, q2, _, q4, q5⟩ := A.en.own j ys ho
    rw [e] at q1
    cases q1
    exact ⟨upd_ne hne, q4, q5⟩
  · have hne : c ≠ a := fun z => by rw [z] at h1; exact al.n0.no h1 nt
    exact (upd_ne hne).trans (A.ent.keep c o h1 nt h2)
  · exact A.ent.there c (nu_poke hc)
  · have hne : c ≠ a := fun z => al.nf (by rw [← z]; exact hc)
    obtain ⟨o, q, nt⟩ := A.sure c hc
    exact ⟨o, (upd_ne hne).trans q, nt⟩
end
/-! ### the judgements of a block -/
abbrev zc (z : Zx) (G0 : Wd) : Zx := ⟨z.K, z.mg, G0, fun _ _ _ _ => False⟩
def REb (z : Zx) (d : Cd PV) : TE := fun σ H Q => ∃ G0, RE (zc z G0) d σ H Q
def RTb (z : Zx) (d : Cd Bool) : TT := fun σ H Q => ∃ G0, RT (zc z G0) d σ H Q
section
variable {X : Cx} {z : Zx} {pos p apos cpos : Pos}
abbrev MEb (X : Cx) (z : Zx) (e : Expr) (d : Cd PV) : Prop := ∀ G0, ME X (zc z G0) e d
def MTsb (X : Cx) (z : Zx) (e : List Expr) (d : Cd Bool) : Prop := PTs X e (RTb z d)
theorem mts_nil : MTsb X z [] (ret true) := ⟨fun pins s σ H Q I h => by
  obtain ⟨G0, G, env, S, e, A, P⟩ := h
  subst e
  exact pts_nil.run pins s σ _ Q I (P G (Mon.refl _) A)⟩
theorem mts_one {c : Expr} {t : Cd Bool} (h : ∀ G0, MT X (zc z G0) c t) : MTsb X z [c] t := ⟨fun pins s σ H Q I q => by
  obtain ⟨G0, q⟩ := q
  exact (pts_one (h G0)).run pins s σ H Q I q⟩
/-- a target of a block: names of the block alone -/
def PostGc (z : Zx) (G : Wd) (own : List Nat) (σ : St) (Q : St → Hp → Prop) : Out Unit → Prop
  | .ok _ env S => ∀ (σ' : St) (G' : Wd), Mon G G' → At z.K z.G0 G' S env σ' → wipe σ' own = wipe σ own → Q σ' G'.H
  | .raise c w env S => ∀ σ', PRaise z G c w env S σ'
  | .bad => False
def RGc (z : Zx) (own : List Nat) (d : PV → Cd Unit) : TG := fun v σ H Q => ∃ G0 G env S p, G.H = H ∧ At z.K G0 G S env σ ∧ Rep z.K G p v ∧ PostGc (zc z G0) G own σ Q (d p env S)
def RGcs (z : Zx) (own : List Nat) (d : List PV → Cd Unit) : TGs := fun vs σ H Q => ∃ G0 G env S ps, G.H = H ∧ At z.K G0 G S env σ ∧ RepL z.K G ps vs ∧ PostGc (zc z G0) G own σ Q (d ps env S)
abbrev MGc (X : Cx) (z : Zx) (own : List Nat) (e : Expr) (d : PV → Cd Unit) : Prop := PG X e (RGc z own d)
abbrev MGcs (X : Cx) (z : Zx) (own : List Nat) (e : List Expr) (d : List PV → Cd Unit) : Prop := PGs X e (RGcs z own d)
theorem PostGc.later {G G1 : Wd} {own : List Nat} {σ : St} {Q : St → Hp → Prop} {o : Out Unit} (h : PostGc z G own σ Q o) (M : Mon G G1) : PostGc z G1 own σ Q o := by
  cases o with
  | ok p env S => exact fun σ' G' m a => h σ' G' (M.trans m) a
  | raise c w env S => exact fun σ' => (h σ').later M
  | bad => exact h
theorem wipe_set {σ : St} {i : Nat} {v : Option V} {own : List Nat} (h : i ∈ own) : wipe (σ.set i v) own = wipe σ own := by
  apply List.ext_getElem?
  intro j
  rw [wipe_get, wipe_get, List.length_set]
  by_cases hj : j ∈ own
  · rw [if_pos hj, if_pos hj]
  · rw [if_neg hj, if_neg hj, List.getElem?_set_ne (fun e => hj (by rw [← e]; exact h))]
theorem mgc_name (i : Nat) {x : Str} {own : List Nat} (hN : X.N.Nodup) (ho : i ∈ own := by decide) (hi : X.N[i]? = some x := by rfl) (hx : Loc X.env.scope x := by first | exact Or.inl rfl | exact Or.inr rfl) (hf : X.fn x = true ∨ X.env.scope.names.lookup x = some .local := by first | exact .inl rfl | exact .inr rfl | assumption) :
    MGc X z own (.Name x pos) (gSet i) := (pg_name hN hi hx hf).imp fun v σ H Q ⟨G0, G, env, S, p, e, A, r, P⟩ => by
  subst e
  exact P _ G (Mon.refl G) (At.setVal (z := zc z G0) A r) (wipe_set ho)
theorem mgcs_nil {own : List Nat} : MGcs X z own [] gsNil := pgs_nil.imp fun vs σ H Q ⟨G0, G, env, S, ps, e, A, r, P⟩ => by
  subst e
  cases r with
  | nil => exact ⟨rfl, P σ G (Mon.refl G) A rfl⟩
  | cons _ _ => exact P.elim
theorem toGc {β : Type} {G0 : Wd} {F : Wd → Out β → Prop} {G : Wd} {env : Env} {S : Stt} {σ : St} {own : List Nat} (L : Lw (zc z G0) F) {d : PV → Cd Unit} {p : PV} {v : V} {k : Unit → Cd β} {R : St → Hp → Prop} (A : At z.K G0 G S env σ) (r : Rep z.K G p v) (P : F G (bnd (d p) k env S))
    (h : ∀ env1 S1 σ1 G1, Mon G G1 → At z.K G0 G1 S1 env1 σ1 → wipe σ1 own = wipe σ own → F G1 (k () env1 S1) → R σ1 G1.H) : RGc z own d v σ G.H R := by
  refine ⟨G0, G, env, S, p, rfl, A, r, ?_⟩
  unfold bnd at P
  cases e : d p env S with
  | ok u env1 S1 =>
    rw [e] at P
    exact fun σ1 G1 m a w => h env1 S1 σ1 G1 m a w (L.later _ _ _ P m)
  | raise c w env1 S1 =>
    rw [e] at P
    exact L.rais _ _ _ _ _ P
  | bad =>
    rw [e] at P
    exact (L.bad _ P).elim
theorem mgcs_cons {e : Expr} {es : List Expr} {own : List Nat} {g : PV → Cd Unit} {gs : List PV → Cd Unit} (h : MGc X z own e g) (hr : MGcs X z own es gs) (hs : (assignEach (e :: es) X.env).map (·.2) = assign e X.env :: (assignEach es X.env).map (·.2) := by rfl) : MGcs X z own (e :: es) (gsCons g gs) :=
  (pgs_cons h hr hs).imp fun vs σ H Q ⟨G0, G, env, S, ps, e, A, r, P⟩ => by
    subst e
    cases r with
    | nil => exact P.elim
    | cons r0 rr =>
      have L : Lw (zc z G0) (fun G o => PostGc (zc z G0) G own σ Q o) := ⟨fun _ _ _ h m => h.later m, fun _ _ _ _ _ h => h, fun _ h => h⟩
      refine ⟨_, _, rfl, toGc L A r0 P fun env1 S1 σ1 G1 m1 A1 w1 P1 => ⟨G0, G1, env1, S1, _, rfl, A1, rr.mon m1, ?_⟩⟩
      cases e : gs _ env1 S1 with
      | ok u e2 s2 =>
        rw [e] at P1
        exact fun σ' G' m a w => P1 σ' G' m a (w.trans w1)
      | raise c w e2 s2 =>
        rw [e] at P1
        exact P1
      | bad =>
        rw [e] at P1
        exact P1
theorem mgc_tup {es : List Expr} {k : Nat} {own : List Nat} {gs : List PV → Cd Unit} {n : Nat} (h : MGcs X z own es gs) (hK : z.K = X.K := by rfl) (hc : X.calm = true := by rfl) (hn : (assignEach es X.env).length = n := by rfl) (hst : (assignEach es X.env).findIdx? (·.1) = none := by rfl) : MGc X z own (.Tuple es k pos) (gTupD n gs) :=
  (pg_tup hc h hn hst).imp fun v σ H Q ⟨G0, G, env, S, p, e, A, r, P⟩ => by
    subst e
    cases p with
    | tup ps =>
      obtain ⟨a, vs, rfl, q, rr⟩ := r.sqT
      unfold gTupD at P
      by_cases hl : ps.length = n
      · simp only [if_pos hl] at P
        exact ⟨a, vs, rfl, by rw [← hK]; exact q, by rw [← rr.length]; exact hl, G0, G, env, S, ps, rfl, A, rr, P⟩
      · simp only [if_neg hl] at P
        exact P.elim
    | tuz ps =>
      obtain ⟨a, vs, rfl, q, rr⟩ := r.sqZ
      unfold gTupD at P
      by_cases hl : ps.length = n
      · simp only [if_pos hl] at P
        exact ⟨a, vs, rfl, by rw [← hK]; exact q, by rw [← rr.length]; exact hl, G0, G, env, S, ps, rfl, A, rr, P⟩
      · simp only [if_neg hl] at P
        exact P.elim
    | _ => exact P.elim
/-! ### the comprehension -/
def compL (own : List Nat) (g : PV → Cd Unit) (t : Cd Bool) (d : Cd PV) : List PV → List PV → Cd (List PV)
  | [], acc => ret acc
  | p :: ps, acc => bnd (g p) fun _ => bnd t fun b => if b = true then bnd d fun w => if acc.length < sizeLine then fun e s => compL own g t d ps (acc ++ [w]) (wipeE e own) s else fun _ _ => .bad
    else fun e s => compL own g t d ps acc (wipeE e own) s
def dComp (items : Cd (List PV)) (own : List Nat) (g : PV → Cd Unit) (t : Cd Bool) (d : Cd PV) : Cd (List PV) := bnd items fun ps => fun e s => match compL own g t d ps [] (wipeE e own) s with
  | .ok xs e2 s2 => .ok xs (restE e e2 own) s2
  | _ => .bad
/-- the block's end, as the frame sees it -/
def PP (z : Zx) (σ : St) (Q : VK) (env1 : Env) (own : List Nat) (G : Wd) : Out (List PV) → Prop
  | .ok xs e2 s2 => PostF z G σ Q (.ok xs (restE env1 e2 own) s2)
  | _ => False
theorem lwPP {σ : St} {Q : VK} {env1 : Env} {own : List Nat} {z' : Zx} : Lw z' (fun G o => PP z σ Q env1 own G o) := ⟨fun G G1 o h m => by
    cases o with
    | ok xs e2 s2 => exact PostF.later (z := z) (o := .ok xs (restE env1 e2 own) s2) h m
    | raise => exact h
    | bad => exact h, fun _ _ _ _ _ h => h.elim, fun _ h => h⟩
theorem comp_rd {items : Cd (List PV)} {own : List Nat} {g : PV → Cd Unit} {t : Cd Bool} {d : Cd PV} {σ : St} {H : Hp} {Q : VK} (h : RF z (dComp items own g t d) σ H Q) :
    tLc (RI z items) (RGc z own g) (RTb z t) (REb z d) own σ H Q := by
  obtain ⟨G, env, S, e, A, P⟩ := h
  subst e
  refine toI lwF A P fun ps env1 S1 J G1 m1 A1 en P1 => ?_
  intro D hD
  have A0 := wipe_at A1 own
  have start : PP z σ Q env1 own G1 (compL own g t d ps [] (wipeE env1 own) S1) := by
    cases e : compL own g t d ps [] (wipeE env1 own) S1 with
    | ok xs e2 s2 => simp only [e] at P1; exact P1
    | raise c w e2 s2 => simp only [e] at P1; exact P1.elim
    | bad => simp only [e] at P1; exact P1.elim
  refine ⟨fun i m H => m = ps.length - i ∧ i ≤ ps.length ∧ ∃ G e s acc vs, G.H = H ∧ Mon G1 G ∧ At z.K z.G0 G s e (wipe σ own) ∧ Alone z G e (wipe σ own) D vs ∧ RepL z.K G acc vs ∧ PP z σ Q env1 own G (compL own g t d (ps.drop i) acc e s), ⟨ps.length, by simp, Nat.zero_le _, G1.fresh D (.lst []), _, _, [], [], rfl, (Ext.fresh hD).mon A1.sure, A0.fresh hD, A0.alone (vs := []) hD, .nil, ?_⟩, ?_⟩
  · exact (lwPP (z := z) (z' := z)).later _ _ _ (by simpa using start) ((Ext.fresh hD).mon A1.sure)
  · rintro i m H ⟨rfl, hi, G, e, s, acc, vs, rfl, M, A, al, ra, PQ⟩
    by_cases hl : i < ps.length
    · have ed : ps.drop i = ps[i] :: ps.drop (i + 1) := List.drop_eq_getElem_cons hl
      rw [ed] at PQ
      obtain ⟨q1, q2⟩ := en.go i ps[i] G M A.sure (by simp [hl])
      refine .inr ⟨q1, fun H' => ∃ G e s acc vs, G.H = H' ∧ Mon G1 G ∧ At z.K z.G0 G s e (wipe σ own) ∧ Alone z G e (wipe σ own) D vs ∧ RepL z.K G acc vs ∧ PP z σ Q env1 own G (compL own g t d (ps.drop (i + 1)) acc e s), fun H' h => ⟨ps.length - (i + 1), by omega, rfl, hl, h⟩, fun x H' y => ?_⟩
      obtain ⟨G2, rfl, x2, s2, r2⟩ := q2 x H' y
      have m2 := x2.mon A.sure
      have A2 := A.ext x2 s2
      have al2 : Alone z G2 e (wipe σ own) D vs := ⟨x2.keep _ _ al.at_, fun h => (x2.fzn D h).elim al.nf (fun h => by rw [al.at_] at h; cases h), by rw [x2.m]; exact al.nm, al.n0, al.no⟩
      have hnD : ¬ ∃ i, IsOwn e i ∧ (wipe σ own)[i]? = some (some (.ref D)) := fun ⟨i, ho, q⟩ => al2.no i ho q
      have hD0 : (G2.less e (wipe σ own)).H D = some (.lst vs) := (less_same hnD).trans al2.at_
      -- D stands while the block runs
      have keepD : ∀ {G3 : Wd} {S3 : Stt} {e3 : Env} {σ3 : St}, At z.K (G2.less e (wipe σ own)) G3 S3 e3 σ3 → Alone z G3 e3 σ3 D vs := fun {G3 S3 e3 σ3} B =>
        ⟨B.ent.keep D _ hD0 nt_lst al2.nm, fun h => (B.ent.fzn D h).elim al2.nf (fun h => h.no hD0 nt_lst), fun h => (B.ent.new D h).elim al2.nm (fun h => h.no hD0 nt_lst), al2.n0,
          fun i ho q => (B.mine i D ho q).no hD0 nt_lst⟩
      have Mx := M.trans m2
      refine toGc (lwPP (z := z)) A2.aside r2 ((lwPP (z := z) (z' := z)).later _ _ _ PQ m2) fun env3 S3 σ3 G3 m3 B3 w3 P3 => ⟨w3.trans (wipe_id own), G2.less e (wipe σ own), ?_⟩
      refine toT (lwPP (z := z)) B3 P3 fun b env4 S4 G4 m4 B4 P4 => ?_
      -- the frame behind a turn
      have fin : ∀ {G5 : Wd} {S5 : Stt} {e5 : Env}, At z.K (G2.less e (wipe σ own)) G5 S5 e5 σ3 → At z.K z.G0 G5 S5 (wipeE e5 own) (wipe σ own) ∧ Alone z G5 (wipeE e5 own) (wipe σ own) D vs := fun {G5 S5 e5} B => by
        have hw : wipe σ3 own = wipe σ own := w3.trans (wipe_id own)
        have B' := wipe_at (z := zc z (G2.less e (wipe σ own))) B own
        rw [hw] at B'
        exact ⟨A2.back B', keepD B'⟩
      cases b with
      | false =>
        rw [if_neg Bool.false_ne_true] at P4 ⊢
        obtain ⟨F1, F2⟩ := fin B4
        exact ⟨G4, _, S4, acc, vs, rfl, (Mx.trans m3).trans m4, F1, F2, ra.mon ((m2.trans m3).trans m4), P4⟩
      | true =>
        rw [if_pos rfl] at P4 ⊢
        refine ⟨G2.less e (wipe σ own), toE (lwPP (z := z)) B4 P4 fun w env5 S5 v G5 m5 B5 r5 P5 => ?_⟩
        obtain ⟨F1, F2⟩ := fin B5
        have Ma := (m2.trans m3).trans (m4.trans m5)
        by_cases hz : acc.length < sizeLine
        · rw [if_pos hz] at P5
          refine ⟨vs, F2.at_, by rw [← ra.length]; exact hz, ?_⟩
          obtain ⟨N1, N2, N3⟩ := F1.pokeAlone (vs' := vs ++ [v]) F2
          exact ⟨_, _, S5, acc ++ [w], vs ++ [v], rfl, ((Mx.trans m3).trans (m4.trans m5)).trans N1, N2, N3, ((ra.mon Ma).snoc r5).mon N1, (lwPP (z := z) (z' := z)).later _ _ _ P5 N1⟩
        · rw [if_neg hz] at P5
          exact P5.elim
    · have ed : ps.drop i = [] := List.drop_eq_nil_of_le (by omega)
      rw [ed] at PQ
      refine .inl ⟨en.stop i G M (by omega), ?_⟩
      have F := rest_at A1 M A
      exact PQ D vs G (Mon.refl _) F ra al.at_ al.nf al.nm al.n0 fun j ho q => by
        obtain ⟨xs, ho⟩ := ho
        obtain ⟨h1, h2⟩ := rest_own (σ := σ) (a := 0) ho
        exact al.no j ⟨xs, h2⟩ (by rw [wipe_get, if_neg h1]; exact q)
variable {elt tg iter : Expr} {ifs : List Expr} {scope : Scope} {items : Cd (List PV)} {g : PV → Cd Unit} {t : Cd Bool} {d : Cd PV}
theorem peb {e : Expr} {d : Cd PV} (h : MEb X z e d) : PE X e (REb z d) := ⟨fun pins s σ H Q I ⟨G0, q⟩ => (h G0).run pins s σ H Q I q⟩
theorem mf_comp (own : List (Str × Nat)) (hN : X.N.Nodup) (hi : MI X z tg iter items) {N : List Str} {sc : Scope} (ok : blkC N sc scope own = true)
    (hg : ∀ (s : Shared) (H : Hp) (C : Addr) (cl : List (Str × Addr)) (fp : List Addr), MGc (X.blk s H scope (compEnvC scope cl C X.env) fp) z (own.map (·.2)) tg g)
    (ht : ∀ (s : Shared) (H : Hp) (C : Addr) (cl : List (Str × Addr)) (fp : List Addr), MTsb (X.blk s H scope (compEnvC scope cl C X.env) fp) z ifs t)
    (he : ∀ (s : Shared) (H : Hp) (C : Addr) (cl : List (Str × Addr)) (fp : List Addr), MEb (X.blk s H scope (compEnvC scope cl C X.env) fp) z elt d) (hc : X.calm = true := by rfl) (hs : ∀ x, foldedSetIterable iter X.env x = pure x := by intro _; rfl) (hXN : X.N = N := by rfl) (hsc : X.env.scope = sc := by rfl) :
    MF X z (.ListComp elt [⟨tg, iter, ifs, 0⟩] scope pos) (dComp items (own.map (·.2)) g t d) :=
  (pe_lc hc hN hi (blkOk_by (by rw [hXN, hsc]; exact ok)) hg ht (fun s H C cl fp => peb (he s H C cl fp)) hs).imp fun σ H Q h => comp_rd h
/-- y = [..], y a local name of the same row: a value -/
theorem ms_comp (i : Nat) {y : Str} {py spos : Pos} (own : List (Str × Nat)) (hN : X.N.Nodup) (hi : MI X z tg iter items) {N : List Str} {sc : Scope} (ok : blkC N sc scope own = true)
    (hg : ∀ (s : Shared) (H : Hp) (C : Addr) (cl : List (Str × Addr)) (fp : List Addr), MGc (X.blk s H scope (compEnvC scope cl C X.env) fp) z (own.map (·.2)) tg g)
    (ht : ∀ (s : Shared) (H : Hp) (C : Addr) (cl : List (Str × Addr)) (fp : List Addr), MTsb (X.blk s H scope (compEnvC scope cl C X.env) fp) z ifs t)
    (he : ∀ (s : Shared) (H : Hp) (C : Addr) (cl : List (Str × Addr)) (fp : List Addr), MEb (X.blk s H scope (compEnvC scope cl C X.env) fp) z elt d) (hy : X.N[i]? = some y := by rfl) (hyl : X.env.scope.names.lookup y = some .local := by rfl)
    (hsw : swapsWith (.ListComp elt [⟨tg, iter, ifs, 0⟩] scope pos) (some (.Name y py)) spos.line X.env = pure true := by exact sw_true rfl rfl rfl (by decide +kernel))
    (hc : X.calm = true := by rfl) (hs : ∀ x, foldedSetIterable iter X.env x = pure x := by intro _; rfl) (hXN : X.N = N := by rfl) (hsc : X.env.scope = sc := by rfl) :
    MS X z (.Assign [.Name y py] (.ListComp elt [⟨tg, iter, ifs, 0⟩] scope pos) spos) (dSet i (dFrz (dComp items (own.map (·.2)) g t d))) :=
  PS.imp (ps_setLc hc hN hy hyl hsw hi (blkOk_by (by rw [hXN, hsc]; exact ok)) hg ht (fun s H C cl fp => peb (he s H C cl fp)) hs) fun D σ H ⟨G, env, S, e, A, P⟩ => by
    subst e
    unfold dSet dFrz at P
    rw [bnd_assoc] at P
    exact comp_rd (toF lwS A P fun xs env1 S1 a vs G1 m1 A1 r1 al P1 => P1 _ (G1.freeze a) mon_freeze ((A1.freeze al).setVal (.lst (.inr rfl) al.at_ (r1.mon mon_freeze))))
end
end FS
set_option Elab.async false
set_option linter.all false
set_option maxRecDepth 100000
/-! FsEnum: enumerate of lists and of tuples. -/
namespace RZ
open PySem PySem.Spec PyProof.Rows L2
set_option maxHeartbeats 1000000 in
theorem meets_enum_tuple {t : Addr} {items : Array Value} :
    Meets (Builtin.«enumerate.__new__» ⟨[.type "enumerate", .ref t], []⟩) (fun _ R s => s.heap.IsTuple t items ∧
      R (.ok (.ret (.ref (s.heap.push { cls := .type "tuple_iterator", data := .fields #[.ref t, .int 0 0] }).objs.size)))
        { s with heap := (s.heap.push { cls := .type "tuple_iterator", data := .fields #[.ref t, .int 0 0] }).push { cls := .type "enumerate", data := .fields #[.none, .bool false, .ref s.heap.objs.size, rawInt 0, .none, .none] } }) :=
  .of_wp fun prog w A R s h => by
    obtain ⟨hp, g, d, tk, os⟩ := s; obtain ⟨h1, h⟩ := h
    have hsub := sub_enumerate
    have q1 : ∀ {A' : Around} {E : Value → Shared → Prop} {Q : Value → Shared → Prop}, Q (.ref hp.objs.size) ⟨hp.push { cls := .type "tuple_iterator", data := .fields #[.ref t, .int 0 0] }, g, d, tk, os⟩ → wpAny (model prog w) A' (pyIter (.ref t)) Q E ⟨hp, g, d, tk, os⟩ :=
      fun q => wpAny_pyIter_tuple (s := ⟨hp, g, d, tk, os⟩) h1 q
    wp_walk using q1
    refine wpAny_stack_any fun st => wpAny_pure ?_
    split
    · rename_i c _ _ _ _ _
      cases (c == Value.type "enumerate")
      · wp_walk using q1
        exact ⟨_, rfl, h⟩
      · wp_walk using q1
        exact ⟨_, rfl, h⟩
    · wp_walk using q1
      exact ⟨_, rfl, h⟩
section
variable {prog : Program} {w : World} {A : Around} {E : Value → Shared → Prop} {s : Shared}
theorem call_enum_tuple {l : Addr} {items : Array Value} {Q : Value → Shared → Prop} (hL : s.heap.IsTuple l items)
    (h : ∀ h', IsEnum h' (s.heap.objs.size + 1) s.heap.objs.size 0 .none → h'.IsTupleIter s.heap.objs.size l 0 → h'.objs.size = s.heap.objs.size + 2 →
      (∀ b o, s.heap.get? b = some o → h'.get? b = some o) → Q (.ref (s.heap.objs.size + 1)) { s with heap := h' }) :
    wpAny (model prog w) A (call (.type "enumerate") [.ref l]) Q E s := by
  refine callType_new F.called_enumerate (by decide) (F.typeCall_enumerate_1 _) (F.newCall_enumerate_1 _) (fun obj => F.args_object_init_2 obj _) F.entry_enumerate_new
    meets_enum_tuple ⟨hL, ?_⟩
  have hz : (s.heap.push { cls := .type "tuple_iterator", data := .fields #[.ref l, .int 0 0] }).objs.size = s.heap.objs.size + 1 := Heap.size_push ..
  show _ ∧ _
  rw [hz]
  have he : IsEnum ((s.heap.push { cls := .type "tuple_iterator", data := .fields #[.ref l, .int 0 0] }).push
      { cls := .type "enumerate", data := .fields #[.none, .bool false, .ref s.heap.objs.size, rawInt 0, .none, .none] }) (s.heap.objs.size + 1) s.heap.objs.size 0 .none := by
    have := Heap.get?_push_size (s.heap.push { cls := .type "tuple_iterator", data := .fields #[.ref l, .int 0 0] })
      (o := { cls := .type "enumerate", data := .fields #[.none, .bool false, .ref s.heap.objs.size, rawInt 0, .none, .none] }) rfl
    rw [hz] at this; exact this
  refine ⟨⟨_, he, rfl⟩, h _ he ⟨_, Heap.get?_push_of_some _ (Heap.get?_push_size _ rfl), rfl, rfl⟩ (by rw [Heap.size_push, hz]) fun b o x => Heap.get?_push_of_some _ (Heap.get?_push_of_some _ x)⟩
end
/-- the tuple at a, each item in a new pair -/
def IteT (K : PySem.W.Frag) (a : Addr) : It :=
  ⟨fun i H => ∃ (xs : List V) (x : V), SqT K H a xs ∧ xs[i]? = some x, fun i H v H' => ∃ T x, v = .ref T ∧ H T = none ∧ H' = upd H T (.tup [.int (i : Nat), x]) ∧ ∀ xs, SqT K H a xs → xs[i]? = some x, fun i H => ∃ xs : List V, SqT K H a xs ∧ xs.length ≤ i⟩
theorem turn_enumT {P : Program} {w : World} {K : PySem.W.Frag} {elts : List Expr} {kk : Nat} {tpos : Pos} (a e it : Addr) :
    Turn P w K (.Tuple elts kk tpos) (IteT K a) [e, it] e (fun i h => (∃ old, IsEnum h e it ((i : Nat) : Int) old) ∧ h.IsTupleIter it a i ∧ e ≠ it ∧ a ≠ it ∧ e ≠ a) where
  mem := by simp
  obj := fun i h st b hb => by
    obtain ⟨⟨old, he⟩, ⟨o, ho, hc, hd⟩, _⟩ := st
    have e' : b = e ∨ b = it := by simpa using hb
    rcases e' with z | z
    · rw [z]; exact ⟨_, he, fun v q => nomatch q⟩
    · rw [z]; exact ⟨o, ho, fun v q => by rw [hd] at q; cases q⟩
  keep := fun i h h' st k => let ⟨⟨old, he⟩, hi, hne⟩ := st; ⟨⟨old, k e (by simp) _ he⟩, hi.at fun o q => k it (by simp) o q, hne⟩
  item := by
    intro X hP hw hK hc i pins s σ H E I hf st hg
    subst hP hw hK
    obtain ⟨⟨old, he⟩, hit, hne, hai, hea⟩ := st
    obtain ⟨xs, x, hq, hx⟩ := hg
    obtain ⟨its, rv, p, hz⟩ := I.tuple hq
    obtain ⟨u, hu, ru⟩ := rv.get hx
    have hel : e < s.heap.objs.size := Heap.lt_size he
    have hil : it < s.heap.objs.size := by obtain ⟨_, q, _⟩ := hit; exact Heap.lt_size q
    have hh : X.A.in1.handled = none := I.ok.hd hc
    have hlt : i < its.toArray.size := by
      have := (List.getElem?_eq_some_iff.mp hu).1
      simpa using this
    refine wpAny_pyNext_enum_itemD (Draws.tuple hh it a hai its.toArray) he ⟨hit, p⟩ hlt hne (by simp [hne, hea]) fun x' h' tk hPx ho hst hT hsz hk => ?_
    have ex : x' = u := by
      have h1 : its.toArray[i]? = some x' := hPx
      have h2 : its.toArray[i]? = some u := by simpa using hu
      exact Option.some.inj (h1.symm.trans h2)
    subst ex
    refine ⟨_, rfl, wpAny_letOwnedTupleGo_enum (s := { s with heap := h', toks := tk + 1 }) ho fun h'' he' sb => ?_⟩
    have hT2 : h''.get? s.heap.objs.size = some { cls := .type "tuple", data := .seq #[.int i tk, x'] } := (sb.2 _ (Nat.ne_of_gt hel)).trans hT
    have new : ObjOk X.prog X.w (upd H s.heap.objs.size (.tup [.int (i : Nat), x])) h'' s.heap.objs.size (.tup [.int (i : Nat), x]) :=
      ⟨by show 2 ≤ sizeLine; decide, [.int i tk, x'], .cons ⟨_, rfl⟩ (.cons ru .nil), ⟨_, hT2, rfl, _, rfl⟩⟩
    have I1 : Inv X pins σ (upd H s.heap.objs.size (.tup [.int (i : Nat), x])) { s with heap := h'', toks := tk + 1 } :=
      I.turnedNew (ch := [e, it]) (fun b ob hb q => (sb.2 b (fun z => hb (by simp [z]))).trans (hk b ob (fun z => hb (by simp [z])) (fun z => hb (by simp [z])) q)) hf (Nat.le_refl _) new
    refine ⟨.ref s.heap.objs.size, _, I1, rfl, ⟨_, x, rfl, I.hok.fresh (Nat.le_refl _), rfl, fun ys hy => by rw [I.tuple_inj hy hq]; exact hx⟩, ⟨⟨x', ?_⟩, hst.1.at fun o q => (sb.2 it (Ne.symm hne)).trans q, hne, hai, hea⟩, fun b hb => ?_⟩
    · have e1 : ((i + 1 : Nat) : Int) = (i : Int) + 1 := by omega
      rw [e1]; exact he'
    · have hb' : b < s.heap.objs.size := by
        have e' : b = e ∨ b = it := by simpa using hb
        rcases e' with z | z
        · rw [z]; exact hel
        · rw [z]; exact hil
      rw [upd_ne (Nat.ne_of_lt hb')]
      exact (hf b hb).1
  done := by
    intro X hP hw hK hc i pins s σ H E I hf st hg
    subst hP hw hK
    obtain ⟨⟨old, he⟩, hit, hne, hai, hea⟩ := st
    obtain ⟨xs, hq, hx⟩ := hg
    obtain ⟨its, rv, p, hz⟩ := I.tuple hq
    obtain ⟨f0, f1, f2, f3, f4, f5⟩ := hf it (by simp)
    have hl := rv.length
    have hh : X.A.in1.handled = none := I.ok.hd hc
    have hT : s.TypeIs (.ref e) "enumerate" := ⟨_, he, rfl⟩
    unfold pyNext
    refine wpAny_bind (wpAny_attempt (wpAny_callSpecial?_slot (name := Str.ofString "__next__") hT F.slot_enumerate_next
      (wpAny_call_entry F.slot_enumerate_next hT F.entry_enumerate_next ?_ (F.args_enumerate_next_1 _))))
    show wpAny _ _ (field (.ref e) 2 >>= _) _ _ _
    refine wpAny_bind (wpAny_field he rfl (x := .ref it) rfl ?_)
    refine wpAny_bind (wpAny_nextOf_tuple_end hh hit p (by simp; omega) fun h' x he' hx' => ?_)
    obtain ⟨o, ho, hcl⟩ := hx'
    refine wpAny_bind (wpAny_isInstance (T := "StopIteration") (b := true) ⟨o, ho, hcl⟩ isSubtype_stop ?_)
    exact wpAny_pure ⟨rfl, I.turned (t' := s.toks) (fun b o hb q => he' b o hb q) f0 f1 f3 f4 f5⟩
  self := fun A i s Q E st h => let ⟨⟨_, he⟩, _⟩ := st; wpAny_pyIter_enum he h
def iEnumA (K : PySem.W.Frag) (ta : TA) : TI := fun σ H R => ta σ H fun vs H1 => ∃ a xs, vs = [.ref a] ∧ ((SqL K H1 a xs ∧ R (Ite K a) H1) ∨ (SqT K H1 a xs ∧ R (IteT K a) H1))
theorem pi_enumA {X : Cx} {e : Expr} {ta : TA} {p pos tpos : Pos} {elts : List Expr} {kk : Nat} (hg : Gl X "enumerate") (hm : X.mg "enumerate" = none) (ha : PA X [e] ta) (hs : starEach [e] X.env = [(false, eval e X.env)] := by rfl) :
    PI X (.Tuple elts kk tpos) (.Call (.Name "enumerate" p) [e] [] pos) (iEnumA X.K ta) := by
  refine ⟨fun pins s σ H R I h => ?_⟩
  refine Call_ (ld_blt I hg hm boot_enumerate (PyProof.Rows.callWith_type1 (thn (ha.run pos pins s σ H _ I h) fun us s1 ⟨vs, H1, I1, r1, q1⟩ => ?_) hs rfl))
  obtain ⟨a, xs, ex, q1⟩ := q1
  subst ex
  cases r1 with
  | cons r rr =>
    cases rr
    cases r
    have fr : ∀ b, b ∈ [s1.heap.objs.size + 1, s1.heap.objs.size] → FpOk X pins H1 b := fun b hb => by
      have e' : b = s1.heap.objs.size + 1 ∨ b = s1.heap.objs.size := by simpa using hb
      have hle : s1.heap.objs.size ≤ b := by
        rcases e' with z | z
        · rw [z]; exact Nat.le_add_right _ _
        · rw [z]; exact Nat.le_refl _
      exact I1.fpOk hle (I1.hok.fresh hle)
    rcases q1 with ⟨hq, q⟩ | ⟨hq, q⟩
    · obtain ⟨its, rv, p', hz⟩ := I1.list hq
      refine call_enumerate_list p'.isList fun h' he hit hsz hk => wpAny_pyIter_enum he ?_
      have I2 : Inv X pins σ H1 { s1 with heap := h' } := I1.kept (t' := s1.toks) hk
      exact ⟨s1.heap.objs.size + 1, [s1.heap.objs.size + 1, s1.heap.objs.size], _, _, H1, rfl, I2, turn_enum a (s1.heap.objs.size + 1) s1.heap.objs.size, ⟨⟨.none, he⟩, hit, Nat.succ_ne_self _⟩, fr, q⟩
    · obtain ⟨its, rv, p', hz⟩ := I1.tuple hq
      obtain ⟨o1, ho1, _⟩ := id p'
      have hlt : a < s1.heap.objs.size := Heap.lt_size ho1
      refine call_enum_tuple (show s1.heap.IsTuple a its.toArray from p') fun h' he hit hsz hk => wpAny_pyIter_enum he ?_
      have I2 : Inv X pins σ H1 { s1 with heap := h' } := I1.kept (t' := s1.toks) hk
      exact ⟨s1.heap.objs.size + 1, [s1.heap.objs.size + 1, s1.heap.objs.size], _, _, H1, rfl, I2, turn_enumT a (s1.heap.objs.size + 1) s1.heap.objs.size, ⟨⟨.none, he⟩, hit, Nat.succ_ne_self _, Nat.ne_of_lt hlt, Nat.ne_of_gt (Nat.lt_succ_of_lt hlt)⟩, fr, q⟩
end RZ
namespace FS
open PySem PySem.Spec L2
theorem enum_enumT {K : PySem.W.Frag} {G : Wd} {a : Addr} {vs : List V} {xs : List PV} (r1 : RepL K G xs vs) (h1 : ∀ G1, Mon G G1 → SqT K G1.H a vs) : Enum K (RZ.IteT K a) G (enumL xs) :=
  ⟨fun i G1 M hl => ⟨vs, h1 G1 M, by
    unfold enumL at hl
    rw [List.length_map, List.length_zipIdx] at hl
    rw [← r1.length]
    exact hl⟩, fun i p G1 M su e => by
    unfold enumL at e
    rw [List.getElem?_map, List.getElem?_zipIdx] at e
    cases q : xs[i]? with
    | none => rw [q] at e; cases e
    | some c =>
      rw [q] at e
      simp only [Option.map_some, Nat.zero_add] at e
      cases e
      obtain ⟨v, f1, g1⟩ := r1.get q
      refine ⟨⟨vs, v, h1 G1 M, f1⟩, fun x H' y => ?_⟩
      obtain ⟨T, x1, rfl, hn, rfl, k1⟩ := y
      have := k1 vs (h1 G1 M)
      rw [f1] at this
      cases this
      obtain ⟨z1, z2, z3⟩ := pair_new su hn (.int _) (g1.mon M)
      exact ⟨_, rfl, z1, z2, z3⟩⟩
section
variable {X : Cx} {z : Zx} {pos p : Pos} {da : Cd (List PV)}
/-- enumerate of a list, of a tuple -/
def enumP (ps : List PV) : Option (List PV) := match ps with
  | [p] => (itemsF p).map enumL
  | _ => none
def dEnum (d : Cd (List PV)) : Cd (List PV) := bnd d fun ps => lift (enumP ps)
theorem mi_enum {a : Expr} {elts : List Expr} {kk : Nat} {tpos : Pos} (hm : X.mg "enumerate" = none) (ha : MA X z [a] da) (hK : z.K = X.K := by rfl) (hg : Gl X "enumerate" := by rfl) (hs : starEach [a] X.env = [(false, eval a X.env)] := by rfl) :
    MI X z (.Tuple elts kk tpos) (.Call (.Name "enumerate" p) [a] [] pos) (dEnum da) := by
  refine PI.imp (RZ.pi_enumA hg hm ha hs) fun σ H R ⟨G, env, S, e, A, P⟩ => ?_
  subst e
  refine toA lwI A P fun ps env1 S1 vs G1 m1 A1 r1 P1 => ?_
  unfold lift at P1
  cases e : enumP ps with
  | none => simp only [e] at P1; exact P1.elim
  | some qs =>
    simp only [e] at P1
    match ps, e with
    | [p], e =>
      obtain ⟨v, rfl, r2⟩ := repL1 r1
      unfold enumP at e
      cases e1 : itemsF p with
      | none => simp only [e1] at e; cases e
      | some xs =>
        simp only [e1] at e
        cases e
        rw [← hK]
        cases hp : isT p with
        | false =>
          obtain ⟨a1, us, rfl, s1, k1⟩ := itemsF_L e1 hp r2
          exact ⟨a1, us, rfl, .inl ⟨k1 G1 (Mon.refl _), P1 _ G1 (Mon.refl _) A1 (enum_enum s1 k1)⟩⟩
        | true =>
          obtain ⟨a1, us, rfl, s1, k1⟩ := itemsF_T e1 hp r2
          exact ⟨a1, us, rfl, .inr ⟨k1 G1 (Mon.refl _), P1 _ G1 (Mon.refl _) A1 (enum_enumT s1 k1)⟩⟩
end
end FS
set_option Elab.async false
set_option linter.all false
set_option maxRecDepth 100000
/-! FsOwn: lists that a name alone holds are read; more new lists; more assignments. -/
namespace HT
open PySem PySem.Spec PyProof.Rows
end HT
namespace L2
open PySem PySem.Spec PyProof.Rows
section
variable {X : Cx}
def rInDT (K : PySem.W.Frag) (neg : Bool) : R2 := fun x y H Q => ∃ d ds, Dp K H x d ∧ Dp K H y (.tuple ds) ∧ SeqAt.shaped d = true ∧ SeqAt.shaped (.tuple ds) = true ∧ Q (.bl (if neg then !ds.any (fun z => PyData.eqv z d) else ds.any fun z => PyData.eqv z d)) H
theorem op_inDT (hu : X.A.units + 65 < cLine) : OpR X (compareOp .In) (rInDT X.K false) := by
  intro pins s σ H x y v u Q I rx ry h
  obtain ⟨d, ds, hd, he, sd, se, q⟩ := h
  obtain ⟨as, r1⟩ := Dp.reads I d x v hd rx
  obtain ⟨bs, r2⟩ := Dp.reads I (.tuple ds) y u he ry
  exact SeqAt.in_tuple_reads r2 r1 (SeqAt.canLay_of_shaped se) (SeqAt.canLay_of_shaped sd) (room_in_shaped sd hu) ⟨.bl _, H, I, rfl, q⟩
theorem op_notInDT (hu : X.A.units + 65 < cLine) : OpR X (compareOp .NotIn) (rInDT X.K true) := by
  intro pins s σ H x y v u Q I rx ry h
  obtain ⟨d, ds, hd, he, sd, se, q⟩ := h
  obtain ⟨as, r1⟩ := Dp.reads I d x v hd rx
  obtain ⟨bs, r2⟩ := Dp.reads I (.tuple ds) y u he ry
  exact SeqAt.notIn_tuple_reads r2 r1 (SeqAt.canLay_of_shaped se) (SeqAt.canLay_of_shaped sd) (room_in_shaped sd hu) ⟨.bl _, H, I, rfl, q⟩
end
end L2
namespace FS
open PySem PySem.Spec L2
section
variable {X : Cx} {z : Zx} {pos p p1 p2 p3 : Pos} {a b e : Expr} {da db : Cd PV}
theorem pe_either {t t' : TE} (h : PE X e t) (h' : PE X e t') : PE X e (fun σ H Q => t σ H Q ∨ t' σ H Q) :=
  ⟨fun pins s σ H Q I q => q.elim (h.run pins s σ H Q I) (h'.run pins s σ H Q I)⟩
/-! ### a list that a name alone holds is read -/
/-- len(x) -/
def dLenO (i : Nat) : Cd PV := fun e s => match e[i]? with
  | some (.own xs) => .ok (.int xs.length) e s
  | _ => dFn fLen (dCons (dUse i) dNil) e s
theorem me_lenO (i : Nat) {x : Str} (hm : X.mg "len" = none) (hK : z.K = X.K := by rfl) (hN : X.N[i]? = some x := by rfl) (hv : Vis X.env.scope x := by first | exact Or.inl rfl | exact Or.inr (Or.inl rfl) | exact Or.inr (Or.inr rfl)) (hd : (x == ("__debug__" : Str)) = false := by decide)
    (hcd : (x == ("__classdict__" : Str)) = false := by decide) (hg : Gl X "len" := by rfl)
    (he : starEach [.Name x p1] X.env = (false, eval (.Name x p1) X.env) :: starEach [] X.env := by rfl) (hpl : (backTo pos (starEach [] X.env)).any (·.1) = false := by rfl) :
    ME X z (.Call (.Name "len" p) [.Name x p1] [] pos) (dLenO i) := by
  have h1 : PE X (.Call (.Name "len" p) [.Name x p1] [] pos) _ := pe_callB call_len_seq hg hm (by decide +kernel) (pa_cons (pe_var hN hv hd hcd) pa_nil he) (by decide) (by decide) he hpl
  have h2 : ME X z (.Call (.Name "len" p) [.Name x p1] [] pos) (dFn fLen (dCons (dUse i) dNil)) := me_blt (c_len hK) hm (ma_cons (me_use i hN hv hd hcd) ma_nil he) (by decide +kernel) hg (by decide) (by decide) he hpl
  refine (pe_either h1 h2).imp fun σ H Q ⟨G, env, S, e, A, P⟩ => ?_
  subst e
  unfold dLenO at P
  cases q : env[i]? with
  | none => rw [q] at P; exact .inr ⟨G, env, S, rfl, A, P⟩
  | some s =>
    rw [q] at P
    cases s with
    | none => exact .inr ⟨G, env, S, rfl, A, P⟩
    | exc a d w => exact .inr ⟨G, env, S, rfl, A, P⟩
    | val p => exact .inr ⟨G, env, S, rfl, A, P⟩
    | own xs =>
      obtain ⟨a, vs, e1, e2, r, _⟩ := A.en.own i xs q
      exact .inl ⟨_, e1, a, vs, rfl, .inl (SqL.of e2), by rw [← r.length]; exact P _ G (Mon.refl _) A (.int _)⟩
/-- x[k] -/
def dIxO (i : Nat) (db : Cd PV) : Cd PV := fun e s => match e[i]? with
  | some (.own _) => bnd db (fun k => fun e s => match e[i]?, k with
    | some (.own xs), .int j => match atI xs j with
      | some w => .ok w e s
      | none => .bad
    | _, _ => .bad) e s
  | _ => dOp pIx (dUse i) db e s
theorem me_ixO (i : Nat) {x : Str} (hb : ME X z b db) (hK : z.K = X.K := by rfl) (hN : X.N[i]? = some x := by rfl) (hv : Vis X.env.scope x := by first | exact Or.inl rfl | exact Or.inr (Or.inl rfl) | exact Or.inr (Or.inr rfl)) (hd : (x == ("__debug__" : Str)) = false := by decide)
    (hcd : (x == ("__classdict__" : Str)) = false := by decide) (hs : PlainIx b := by exact fun _ _ => rfl) : ME X z (.Subscript (.Name x p) b pos) (dIxO i db) := by
  have h1 : PE X (.Subscript (.Name x p) b pos) _ := pe_ix ix_seq (pe_var (pos := p) hN hv hd hcd) hb hs
  have h2 : ME X z (.Subscript (.Name x p) b pos) (dOp pIx (dUse i) db) := me_ix (me_use i hN hv hd hcd) hb hK hs
  refine (pe_either h1 h2).imp fun σ H Q ⟨G, env, S, e, A, P⟩ => ?_
  subst e
  unfold dIxO at P
  cases q : env[i]? with
  | none => rw [q] at P; exact .inr ⟨G, env, S, rfl, A, P⟩
  | some s =>
    rw [q] at P
    cases s with
    | none => exact .inr ⟨G, env, S, rfl, A, P⟩
    | exc a d w => exact .inr ⟨G, env, S, rfl, A, P⟩
    | val p => exact .inr ⟨G, env, S, rfl, A, P⟩
    | own xs =>
      obtain ⟨a, vs, e1, e2, r, _⟩ := A.en.own i xs q
      refine .inl ⟨_, e1, ?_⟩
      refine toE lwE A P fun k env1 S1 v G1 m1 A1 r1 P1 => ?_
      cases q1 : env1[i]? with
      | none => simp only [q1] at P1; exact P1.elim
      | some sl =>
        cases sl with
        | none => simp only [q1] at P1; exact P1.elim
        | val p => simp only [q1] at P1; exact P1.elim
        | exc a d w => simp only [q1] at P1; exact P1.elim
        | own ys =>
          cases k with
          | int j =>
            simp only [q1] at P1
            cases e : atI ys j with
            | none => simp only [e] at P1; exact P1.elim
            | some w =>
              simp only [e] at P1
              cases r1
              obtain ⟨b, us, f1, f2, f3, _⟩ := A1.en.own i ys q1
              rw [e1] at f1
              cases f1
              obtain ⟨u, g1, g2⟩ := atI_rep f3 e
              exact .inl ⟨a, us, j, u, rfl, rfl, SqL.of f2, g1, P1 u G1 (Mon.refl _) A1 g2⟩
          | _ => simp only [q1] at P1; exact P1.elim
/-! ### in, of tuples too -/
def pInT : Stt → PV → PV → Option PV := fun _ p q => match q with
  | .tup xs => if (okd 60 p && okd 60 (.tup xs)) = true then some (.bl (xs.any fun y => eqv y p)) else none
  | _ => none
def pNotInT : Stt → PV → PV → Option PV := fun _ p q => match q with
  | .tup xs => if (okd 60 p && okd 60 (.tup xs)) = true then some (.bl (!xs.any fun y => eqv y p)) else none
  | _ => none
theorem op_pInT {j : Nat} (hr : Room j X.A) (hK : z.K = X.K := by rfl) : OpD X z (compareOp .In) pInT := by
  refine ⟨_, op_inDT (by have := hr.un; omega), fun G S p q w x y Q e s su rp rq h => ?_⟩
  cases q with
  | tup xs =>
    simp only [pInT] at e
    split at e
    · rename_i hc
      rw [Bool.and_eq_true] at hc
      cases e
      rw [hK] at s rp rq
      exact ⟨_, _, rep_dp 60 _ _ hc.1 rp, rep_dp 60 _ _ hc.2 rq, okd_shaped hc.1, okd_shaped hc.2, by rw [any_toDs]; exact h _ G (.refl G) su (.bl _)⟩
    · cases e
  | _ => cases e
theorem op_pNotInT {j : Nat} (hr : Room j X.A) (hK : z.K = X.K := by rfl) : OpD X z (compareOp .NotIn) pNotInT := by
  refine ⟨_, op_notInDT (by have := hr.un; omega), fun G S p q w x y Q e s su rp rq h => ?_⟩
  cases q with
  | tup xs =>
    simp only [pNotInT] at e
    split at e
    · rename_i hc
      rw [Bool.and_eq_true] at hc
      cases e
      rw [hK] at s rp rq
      exact ⟨_, _, rep_dp 60 _ _ hc.1 rp, rep_dp 60 _ _ hc.2 rq, okd_shaped hc.1, okd_shaped hc.2, by rw [any_toDs]; exact h _ G (.refl G) su (.bl _)⟩
    · cases e
  | _ => cases e
def pInA (S : Stt) (p q : PV) : Option PV := (pIn S p q).or (pInT S p q)
def pNotInA (S : Stt) (p q : PV) : Option PV := (pNotIn S p q).or (pNotInT S p q)
theorem op_pInA {j : Nat} (hr : Room j X.A) (hK : z.K = X.K := by rfl) : OpD X z (compareOp .In) pInA := (op_pIn hr hK).or (op_pInT hr hK)
theorem op_pNotInA {j : Nat} (hr : Room j X.A) (hK : z.K = X.K := by rfl) : OpD X z (compareOp .NotIn) pNotInA := (op_pNotIn hr hK).or (op_pNotInT hr hK)
/-- e in x, x a list that its name alone holds -/
def inL (neg : Bool) (p : PV) (xs : List PV) : Option PV := if (okd 60 p && okd 60 (.lst xs)) = true then some (.bl (if neg then !xs.any (fun y => eqv y p) else xs.any fun y => eqv y p)) else none
def dInO (neg : Bool) (da : Cd PV) (i : Nat) : Cd PV := bnd da fun p => fun e s => match e[i]? with
  | some (.own xs) => match inL neg p xs with
    | some w => .ok w e s
    | none => .bad
  | some (.val q) => match (if neg then pNotInA s p q else pInA s p q) with
    | some w => .ok w e s
    | none => .bad
  | _ => .bad
/-! ### more new lists -/
/-- a list times a whole number -/
def dMulL (da db : Cd PV) : Cd (List PV) := bnd da fun p => bnd db fun q => match p, q with
  | .lst xs, .int k => if k < 1048576 ∧ -1048576 < k ∧ xs.length * k.toNat ≤ sizeLine then ret (List.replicate k.toNat xs).flatten else fun _ _ => .bad
  | _, _ => fun _ _ => .bad
/-- a list and a list -/
def dCatL (da db : Cd PV) : Cd (List PV) := bnd da fun p => bnd db fun q => match p, q with
  | .lst xs, .lst ys => if xs.length + ys.length ≤ sizeLine then ret (xs ++ ys) else fun _ _ => .bad
  | _, _ => fun _ _ => .bad
/-- a list's part -/
def dCutL (d : Cd PV) (lo hi : Cd (Option Int)) : Cd (List PV) := bnd d fun p => bnd lo fun l => bnd hi fun h => match p with
  | .lst xs => ret (cutP xs l h)
  | _ => fun _ _ => .bad
/-- list(range(n)) -/
def dRngL (d : Cd (List PV)) : Cd (List PV) := bnd d fun ps => match ps with
  | [.int j] => if okR j = true ∧ j ≤ 16777216 then ret ((List.range j.toNat).map fun (i : Nat) => PV.int i) else fun _ _ => .bad
  | [.int i, .int j] => if okR i = true ∧ okR j = true ∧ j - i ≤ 16777216 then ret ((List.range (j - i).toNat).map fun (k : Nat) => PV.int (i + k)) else fun _ _ => .bad
  | _ => fun _ _ => .bad
theorem rgV_rep {K : PySem.W.Frag} {G : Wd} (i j : Int) : RepL K G ((List.range (j - i).toNat).map fun (k : Nat) => PV.int (i + k)) (rgV i j) := by
  unfold rgV
  have : ∀ l : List Nat, RepL K G (l.map fun (k : Nat) => PV.int (i + k)) (l.map fun (k : Nat) => V.int (i + k)) := fun l => by
    induction l with
    | nil => exact .nil
    | cons k l ih => exact .cons (.int _) ih
  exact this _
theorem mf_listRg1 {d : Cd PV} (ha : ME X z a d) (hl : X.mg "list" = none) (hrg : X.mg "range" = none) (hc : X.calm = true := by rfl) (hg : Gl X "list" := by rfl) (hg2 : Gl X "range" := by rfl) (na : starEach [a] X.env = (false, eval a X.env) :: starEach [] X.env := by rfl)
    (na2 : starEach [.Call (.Name "range" p1) [a] [] p2] X.env = (false, eval (.Call (.Name "range" p1) [a] [] p2) X.env) :: starEach [] X.env := by rfl) : MF X z (.Call (.Name "list" p) [.Call (.Name "range" p1) [a] [] p2] [] pos) (dRngL (dCons d dNil)) := by
  refine PE.imp (pe_listRg hc hg hl (prg_1 hg2 hrg ha na) na2) fun σ H Q ⟨G, env, S, e, A, P⟩ => ?_
  subst e
  have hA := A
  obtain ⟨G', hh⟩ : ∃ G', G' = G := ⟨G, rfl⟩
  unfold dRngL dCons at P
  have P' : PostF z G σ Q (bnd d (fun v => match v with
    | .int j => if okR j = true ∧ j ≤ 16777216 then ret ((List.range j.toNat).map fun (i : Nat) => PV.int i) else fun _ _ => .bad
    | _ => fun _ _ => .bad) env S) := by
    unfold bnd at P ⊢
    cases q : d env S with
    | bad => rw [q] at P; exact P
    | raise c w e1 s1 => rw [q] at P; exact P
    | ok v e1 s1 =>
      rw [q] at P
      cases v <;> exact P
  refine toE lwF A P' fun v env1 S1 x G1 m1 A1 r1 P1 => ?_
  cases v with
  | int j =>
    simp only at P1
    split at P1
    · rename_i hc
      cases r1
      obtain ⟨h1, h2⟩ := okR_b hc.1
      refine ⟨j, rfl, ⟨by decide, by decide, h1, h2, by omega⟩, fun l hn => ?_⟩
      have M : Mon G1 (G1.fresh l (.lst (rgV 0 j))) := (Ext.fresh hn).mon A1.sure
      have q := A1.alone (vs := rgV 0 j) hn
      have rr := rgV_rep (K := z.K) (G := G1.fresh l (.lst (rgV 0 j))) 0 j
      have e1 : ((List.range (j - 0).toNat).map fun (k : Nat) => PV.int (0 + k)) = (List.range j.toNat).map fun (i : Nat) => PV.int i := by simp
      rw [e1] at rr
      exact P1 l _ _ M (A1.fresh hn) rr q.at_ q.nf q.nm q.n0 q.no
    · exact P1.elim
  | _ => exact P1.elim
/-! ### xs[::-1] -/
def pRev : PV → Option PV
  | .tup xs => some (.tup xs.reverse)
  | .lst xs => some (.lst xs.reverse)
  | _ => none
/-! ### more assignments -/
/-- a, b = (a new list), [] -/
def dOwnNil (i j : Nat) (d : Cd (List PV)) : Cd Flw := bnd d fun xs => fun e s => .ok .next ((e.set i (.own xs)).set j (.own [])) s
/-- a, b = e, [] -/
def dSetNil (i j : Nat) (d : Cd PV) : Cd Flw := bnd d fun p => fun e s => .ok .next ((e.set i (.val p)).set j (.own [])) s
variable {k2 : Nat} {lpos px py pt pt2 : Pos} {kt : Nat}
theorem ms_ownNil (i j : Nat) {x y : Str} {d : Cd (List PV)} (hN : X.N.Nodup) (ha : MF X z a d) (hij : i ≠ j := by decide) (hc : X.calm = true := by rfl) (hi : X.N[i]? = some x := by rfl) (hj : X.N[j]? = some y := by rfl)
    (hx : X.env.scope.names.lookup x = some .local := by rfl) (hy : X.env.scope.names.lookup y = some .local := by rfl)
    (hs0 : starEach [a, .List [] lpos] X.env = (false, eval a X.env) :: starEach [.List [] lpos] X.env := by rfl) (hs1 : starEach [.List [] lpos] X.env = (false, eval (.List [] lpos) X.env) :: starEach [] X.env := by rfl)
    (hw : swappedStores [.Tuple [.Name x px, .Name y py] kt pt] (.Tuple [a, .List [] lpos] k2 pt2) X.env = pure (some [x, y]) := by rfl)
    (hs : swapsWithSole [.Tuple [.Name x px, .Name y py] kt pt] (.Tuple [a, .List [] lpos] k2 pt2) pos.line X.env = pure false := by rfl) :
    MS X z (.Assign [.Tuple [.Name x px, .Name y py] kt pt] (.Tuple [a, .List [] lpos] k2 pt2) pos) (dOwnNil i j d) := by
  refine PS.imp (ps_par hc hN hi hj hij hx hy (pa_cons ha (pa_cons (pe_lst pa_nil) pa_nil hs1) hs0) hw hs) fun D σ H ⟨G, env, S, e, A, P⟩ => ?_
  subst e
  refine toF lwS A P fun xs env1 S1 a vs G1 m1 A1 r1 al P1 => ?_
  refine ⟨Nat.zero_le _, fun l hn => ⟨_, _, rfl, ?_⟩⟩
  have A2 := A1.setOwn (i := i) r1 al
  have M : Mon G1 (G1.fresh l (.lst [])) := (Ext.fresh hn).mon A2.sure
  have al2 := A2.alone (vs := []) hn
  exact P1 _ _ M ((A2.fresh hn).setOwn (i := j) .nil al2)
end
end FS
set_option Elab.async false
set_option linter.all false
set_option maxRecDepth 100000
/-! FsZip: zip of a tuple and a list, in any order. -/
namespace RZ
open PySem PySem.Spec PyProof.Rows L2
/-- k: a tuple, else a list -/
def kIter (k : Bool) (h : Heap) (it a : Addr) (i : Nat) : Prop := if k = true then h.IsTupleIter it a i else h.IsListIter it a i
def kSeq (k : Bool) (h : Heap) (a : Addr) (xs : Array Value) : Prop := if k = true then h.IsTuple a xs else h.IsList a xs
def SqK (K : PySem.W.Frag) (k : Bool) (H : Hp) (a : Addr) (xs : List V) : Prop := if k = true then SqT K H a xs else SqL K H a xs
theorem drawsK {prog : Program} {w : World} {A : Around} (hh : A.handled = none) (k : Bool) (it l : Addr) (hne : l ≠ it) (items : Array Value) :
    Draws prog w A it [it, l] items.size (fun i v => items[i]? = some v) (fun i h => kIter k h it l i ∧ kSeq k h l items) := by
  cases k with
  | true => exact .tuple hh it l hne items
  | false => exact .list hh it l hne items
/-- at its end -/
theorem drawsE {prog : Program} {w : World} {A : Around} (hh : A.handled = none) (k : Bool) (it l : Addr) (hne : l ≠ it) (items : Array Value) (n : Nat) (hn : items.size ≤ n) :
    Draws prog w A it [it, l] n (fun _ _ => True) (fun i h => i = n ∧ kIter k h it l i ∧ kSeq k h l items) where
  live := fun i h st => (drawsK (prog := prog) (w := w) hh k it l hne items).live i h st.2
  frame := fun i h h' st hk => ⟨st.1, (drawsK (prog := prog) (w := w) hh k it l hne items).frame i h h' st.2 hk⟩
  item := fun i s Q E hi st hQ => absurd st.1 (Nat.ne_of_lt hi)
  done := fun s Q E st hE => by
    obtain ⟨_, h1, h2⟩ := st
    have hx : items[n]? = none := by simp; omega
    cases k with
    | true => exact wpAny_nextOf_tuple_end hh h1 h2 hx hE
    | false => exact wpAny_nextOf_list_end hh h1 h2 hx hE
theorem kSeq_of {X : Cx} {pins : List (Addr × Obj)} {σ : L2.St} {H : Hp} {s : Shared} (I : Inv X pins σ H s) {k : Bool} {a : Addr} {xs : List V} (h : SqK X.K k H a xs) : ∃ its : List Value, Vals xs its ∧ kSeq k s.heap a its.toArray := by
  cases k with
  | true =>
    obtain ⟨its, rv, p, _⟩ := I.tuple h
    exact ⟨its, rv, p⟩
  | false =>
    obtain ⟨its, rv, p, _⟩ := I.list h
    exact ⟨its, rv, p.isList⟩
theorem sqK_inj {X : Cx} {pins : List (Addr × Obj)} {σ : L2.St} {H : Hp} {s : Shared} (I : Inv X pins σ H s) {k : Bool} {a : Addr} {xs ys : List V} (h : SqK X.K k H a xs) (h' : SqK X.K k H a ys) : xs = ys := by
  cases k with
  | true => exact I.tuple_inj h h'
  | false => exact I.list_inj h h'
def ItzM (K : PySem.W.Frag) (k l : Bool) (a b : Addr) : It :=
  ⟨fun i H => ∃ (xs ys : List V) (x y : V), SqK K k H a xs ∧ SqK K l H b ys ∧ xs[i]? = some x ∧ ys[i]? = some y,
    fun i H v H' => ∃ T x y, v = .ref T ∧ H T = none ∧ H' = upd H T (.tup [x, y]) ∧ (∀ xs, SqK K k H a xs → xs[i]? = some x) ∧ ∀ ys, SqK K l H b ys → ys[i]? = some y,
    fun i H => ∃ xs ys : List V, SqK K k H a xs ∧ SqK K l H b ys ∧ (xs.length ≤ i ∨ ys.length ≤ i)⟩
theorem kIter.at {k : Bool} {h h' : Heap} {it a : Addr} {i : Nat} (x : kIter k h it a i) (e : ∀ o, h.get? it = some o → h'.get? it = some o) : kIter k h' it a i := by
  cases k with
  | true => exact Heap.IsTupleIter.at x e
  | false => exact Heap.IsListIter.at x e
theorem kIter.ob {k : Bool} {h : Heap} {it a : Addr} {i : Nat} (x : kIter k h it a i) : ∃ o, h.get? it = some o ∧ ∀ v, o.data ≠ .cell v := by
  cases k with
  | true =>
    obtain ⟨o, e, _, d⟩ := x
    exact ⟨o, e, fun v q => by rw [d] at q; cases q⟩
  | false =>
    obtain ⟨o, e, _, d⟩ := x
    exact ⟨o, e, fun v q => by rw [d] at q; cases q⟩
theorem turn_zipM {P : Program} {w : World} {K : PySem.W.Frag} {elts : List Expr} {kk : Nat} {tpos : Pos} {k l : Bool} {a b z TI TO i1 i2 : Addr} (D : ZipSep2 z TI TO i1 i2 [i1, a] [i2, b]) (hTI2 : TI ≠ z) (ha1 : a ≠ i1) (hb2 : b ≠ i2) :
    Turn P w K (.Tuple elts kk tpos) (ItzM K k l a b) [z, TI, TO, i1, i2] z (fun i h => IsZip h z TI TO .none ∧ IsPair h TI (.ref i1) (.ref i2) ∧ (∃ x y, IsPair h TO x y) ∧ kIter k h i1 a i ∧ kIter l h i2 b i) where
  mem := by simp
  obj := fun i h st c hc => by
    obtain ⟨hz, hTI, ⟨x, y, hTO⟩, h1, h2⟩ := st
    have e' : c = z ∨ c = TI ∨ c = TO ∨ c = i1 ∨ c = i2 := by simpa using hc
    rcases e' with q | q | q | q | q
    · rw [q]; exact ⟨_, hz, fun v q => nomatch q⟩
    · rw [q]; exact ⟨_, hTI, fun v q => nomatch q⟩
    · rw [q]; exact ⟨_, hTO, fun v q => nomatch q⟩
    · rw [q]; exact h1.ob
    · rw [q]; exact h2.ob
  keep := fun i h h' st k => by
    obtain ⟨hz, hTI, ⟨x, y, hTO⟩, h1, h2⟩ := st
    exact ⟨k z (by simp) _ hz, k TI (by simp) _ hTI, ⟨x, y, k TO (by simp) _ hTO⟩, h1.at fun o q => k i1 (by simp) o q, h2.at fun o q => k i2 (by simp) o q⟩
  item := by
    intro X hP hw hK hc i pins s σ H E I hf st hg
    subst hP hw hK
    obtain ⟨hz, hTI, ⟨x0, y0, hTO⟩, h1, h2⟩ := st
    obtain ⟨xs, ys, x, y, hqx, hqy, hx, hy⟩ := hg
    obtain ⟨its, rv, p⟩ := kSeq_of I hqx
    obtain ⟨its2, rv2, p2⟩ := kSeq_of I hqy
    obtain ⟨u, hu, ru⟩ := rv.get hx
    obtain ⟨u2, hu2, ru2⟩ := rv2.get hy
    have hh : X.A.in1.handled = none := I.ok.hd hc
    have hzl : z < s.heap.objs.size := Heap.lt_size hz
    have l1 : i < its.toArray.size := by
      have := (List.getElem?_eq_some_iff.mp hu).1
      simpa using this
    have l2 : i < its2.toArray.size := by
      have := (List.getElem?_eq_some_iff.mp hu2).1
      simpa using this
    refine wpAny_pyNext_zipD2_item D (drawsK hh k i1 a ha1 its.toArray) (drawsK hh l i2 b hb2 its2.toArray) hz hTI hTO ⟨h1, p⟩ ⟨h2, p2⟩ l1 l2 fun v1 v2 h' tk e1 e2 z' TO' st1 st2 hT hsz hk => ?_
    have ex : v1 = u := by
      have q1 : its.toArray[i]? = some v1 := e1
      have q2 : its.toArray[i]? = some u := by simpa using hu
      exact Option.some.inj (q1.symm.trans q2)
    have ey : v2 = u2 := by
      have q1 : its2.toArray[i]? = some v2 := e2
      have q2 : its2.toArray[i]? = some u2 := by simpa using hu2
      exact Option.some.inj (q1.symm.trans q2)
    subst ex ey
    refine ⟨_, rfl, wpAny_letOwnedTupleGo_zip (s := { s with heap := h', toks := tk }) z' fun h'' z'' sb => ?_⟩
    have hT2 : h''.get? s.heap.objs.size = some { cls := .type "tuple", data := .seq #[v1, v2] } := (sb.2 _ (Nat.ne_of_gt hzl)).trans hT
    have new : ObjOk X.prog X.w (upd H s.heap.objs.size (.tup [x, y])) h'' s.heap.objs.size (.tup [x, y]) :=
      ⟨by show 2 ≤ sizeLine; decide, [v1, v2], .cons ru (.cons ru2 .nil), ⟨_, hT2, rfl, _, rfl⟩⟩
    have I1 : Inv X pins σ (upd H s.heap.objs.size (.tup [x, y])) { s with heap := h'', toks := tk } :=
      I.turnedNew (t' := tk) (ch := [z, TI, TO, i1, i2]) (fun c o hb q => (sb.2 c (fun q' => hb (by simp [q']))).trans (hk c o (fun q' => hb (by simp [q'])) (fun q' => hb (by simp [q'])) (fun q' => hb (by simp [q'])) (fun q' => hb (by simp [q'])) q)) hf (Nat.le_refl _) new
    refine ⟨.ref s.heap.objs.size, _, I1, rfl, ⟨_, x, y, rfl, I.hok.fresh (Nat.le_refl _), rfl, fun l hl => by rw [sqK_inj I hl hqx]; exact hx, fun l hl => by rw [sqK_inj I hl hqy]; exact hy⟩, ⟨z'', ?_, ⟨v1, v2, ?_⟩, ?_, ?_⟩, fun c hcm => ?_⟩
    · exact (sb.2 _ D.TIz).trans (hk _ _ D.TIz D.TITO D.TIi1 D.TIi2 hTI)
    · exact (sb.2 _ D.TOz).trans TO'
    · exact st1.1.at fun o q => (sb.2 _ (Ne.symm D.zi1)).trans q
    · exact st2.1.at fun o q => (sb.2 _ (Ne.symm D.zi2)).trans q
    · have hlt : c < s.heap.objs.size := by
        have e' : c = z ∨ c = TI ∨ c = TO ∨ c = i1 ∨ c = i2 := by simpa using hcm
        rcases e' with q | q | q | q | q
        · rw [q]; exact hzl
        · rw [q]; exact Heap.lt_size hTI
        · rw [q]; exact Heap.lt_size hTO
        · rw [q]; obtain ⟨_, e1, _⟩ := h1.ob; exact Heap.lt_size e1
        · rw [q]; obtain ⟨_, e2, _⟩ := h2.ob; exact Heap.lt_size e2
      rw [upd_ne (Nat.ne_of_lt hlt)]
      exact (hf c hcm).1
  done := by
    intro X hP hw hK hc i pins s σ H E I hf st hg
    subst hP hw hK
    obtain ⟨hz, hTI, ⟨x0, y0, hTO⟩, h1, h2⟩ := st
    obtain ⟨xs, ys, hqx, hqy, hend⟩ := hg
    obtain ⟨its, rv, p⟩ := kSeq_of I hqx
    obtain ⟨its2, rv2, p2⟩ := kSeq_of I hqy
    have l1 := rv.length
    have l2 := rv2.length
    have hh : X.A.in1.handled = none := I.ok.hd hc
    have fin : ∀ (h' : Heap) (tk : Nat), (∀ c o, c ≠ z → c ≠ TO → c ≠ i1 → c ≠ i2 → s.heap.get? c = some o → h'.get? c = some o) → Inv X pins σ H { s with heap := h', toks := tk } := fun h' tk hk => I.turnedL (t' := tk) (ch := [z, TI, TO, i1, i2]) (fun c o hb q =>
      hk c o (fun q' => hb (by simp [q'])) (fun q' => hb (by simp [q'])) (fun q' => hb (by simp [q'])) (fun q' => hb (by simp [q'])) q) hf
    by_cases e1 : its.toArray.size ≤ i
    · by_cases e2 : its2.toArray.size ≤ i
      · exact wpAny_pyNext_zipD2_end D (drawsE hh k i1 a ha1 its.toArray i e1) (drawsE hh l i2 b hb2 its2.toArray i e2) hz hTI hTO ⟨rfl, h1, p⟩ ⟨rfl, h2, p2⟩ (Nat.le_refl _) (Nat.le_refl _) (.inl rfl) fun h' tk hk => ⟨rfl, fin h' tk hk⟩
      · exact wpAny_pyNext_zipD2_end D (drawsE hh k i1 a ha1 its.toArray i e1) (drawsK hh l i2 b hb2 its2.toArray) hz hTI hTO ⟨rfl, h1, p⟩ ⟨h2, p2⟩ (Nat.le_refl _) (by omega) (.inl rfl) fun h' tk hk => ⟨rfl, fin h' tk hk⟩
    · have e2 : its2.toArray.size ≤ i := by
        rcases hend with q | q
        · exact absurd (by simp; omega) e1
        · simp; omega
      exact wpAny_pyNext_zipD2_end D (drawsK hh k i1 a ha1 its.toArray) (drawsE hh l i2 b hb2 its2.toArray i e2) hz hTI hTO ⟨h1, p⟩ ⟨rfl, h2, p2⟩ (by omega) (Nat.le_refl _) (.inr rfl) fun h' tk hk => ⟨rfl, fin h' tk hk⟩
  self := fun A i s Q E st h => wpAny_pyIter_zip st.1 h
def oIter (k : Bool) (a : Addr) : Obj := if k = true then { cls := .type "tuple_iterator", data := .fields #[.ref a, .int 0 0] } else { cls := .type "list_iterator", data := .fields #[.ref a, .int 0 0] }
theorem beginsK (k : Bool) (a : Addr) (items : Array Value) : Begins (.ref a) (oIter k a) fun h => kSeq k h a items := by
  cases k with
  | true => exact begins_tuple a items
  | false => exact begins_list a items
theorem kIter_0 {k : Bool} {h : Heap} {it a : Addr} (e : h.get? it = some (oIter k a)) : kIter k h it a 0 := by
  cases k with
  | true => exact ⟨_, e, rfl, rfl⟩
  | false => exact ⟨_, e, rfl, rfl⟩
def iZipM (K : PySem.W.Frag) (ta : TA) : TI := fun σ H R => ta σ H fun vs H1 => ∃ k l a b xs ys, vs = [.ref a, .ref b] ∧ SqK K k H1 a xs ∧ SqK K l H1 b ys ∧ R (ItzM K k l a b) H1
theorem pi_zipM {X : Cx} {e e2 : Expr} {ta : TA} {p pos tpos : Pos} {elts : List Expr} {kk : Nat} (hg : Gl X "zip") (hm : X.mg "zip" = none) (ha : PA X [e, e2] ta)
    (hs : starEach [e, e2] X.env = (false, eval e X.env) :: starEach [e2] X.env := by rfl) (hpl : (backTo pos (starEach [e2] X.env)).any (·.1) = false := by rfl) :
    PI X (.Tuple elts kk tpos) (.Call (.Name "zip" p) [e, e2] [] pos) (iZipM X.K ta) := by
  refine ⟨fun pins s σ H R I h => ?_⟩
  refine Call_ (ld_blt I hg hm PyProof.Rows.boot_zip (PyProof.Rows.callWith_type1 (thn (ha.run pos pins s σ H _ I h) fun us s1 ⟨vs, H1, I1, r1, q1⟩ => ?_) hs hpl))
  obtain ⟨k, l, a, b, xs, ys, ex, hqx, hqy, q⟩ := q1
  subst ex
  cases r1 with
  | cons r rr =>
    cases rr with
    | cons r' rr =>
      cases rr
      cases r
      cases r'
      have fresh5 : ∀ c, c ∈ [s1.heap.objs.size + 4, s1.heap.objs.size + 2, s1.heap.objs.size + 3, s1.heap.objs.size, s1.heap.objs.size + 1] → FpOk X pins H1 c := fun c hcm => by
        have e' : c = s1.heap.objs.size + 4 ∨ c = s1.heap.objs.size + 2 ∨ c = s1.heap.objs.size + 3 ∨ c = s1.heap.objs.size ∨ c = s1.heap.objs.size + 1 := by simpa using hcm
        have hle : s1.heap.objs.size ≤ c := by
          rcases e' with z | z | z | z | z
          · rw [z]; exact Nat.le_add_right _ _
          · rw [z]; exact Nat.le_add_right _ _
          · rw [z]; exact Nat.le_add_right _ _
          · rw [z]; exact Nat.le_refl _
          · rw [z]; exact Nat.le_add_right _ _
        exact I1.fpOk hle (I1.hok.fresh hle)
      obtain ⟨its, rv, p1⟩ := kSeq_of I1 hqx
      obtain ⟨its2, rv2, p2⟩ := kSeq_of I1 hqy
      have la : a < s1.heap.objs.size := by
        cases k with
        | true => obtain ⟨o, ho, _⟩ := (id p1 : s1.heap.IsTuple a its.toArray); exact Heap.lt_size ho
        | false => obtain ⟨o, ho, _⟩ := (id p1 : s1.heap.IsList a its.toArray); exact Heap.lt_size ho
      have lb : b < s1.heap.objs.size := by
        cases l with
        | true => obtain ⟨o, ho, _⟩ := (id p2 : s1.heap.IsTuple b its2.toArray); exact Heap.lt_size ho
        | false => obtain ⟨o, ho, _⟩ := (id p2 : s1.heap.IsList b its2.toArray); exact Heap.lt_size ho
      refine zip_begins2 (beginsK k a its.toArray) (beginsK l b its2.toArray) p1 p2 fun h' hz hTI hTO h1 h2 hsz hk => wpAny_pyIter_zip hz ?_
      have I2 : Inv X pins σ H1 { s1 with heap := h' } := I1.kept (t' := s1.toks) hk
      have D : ZipSep2 (s1.heap.objs.size + 4) (s1.heap.objs.size + 2) (s1.heap.objs.size + 3) s1.heap.objs.size (s1.heap.objs.size + 1) [s1.heap.objs.size, a] [s1.heap.objs.size + 1, b] :=
        zip_sep2 (fp1 := [a]) (fp2 := [b]) (fun c hc => by have : c = a := by simpa using hc
                                                           rw [this]; exact la) (fun c hc => by have : c = b := by simpa using hc
                                                                                                rw [this]; exact lb)
      exact ⟨s1.heap.objs.size + 4, [s1.heap.objs.size + 4, s1.heap.objs.size + 2, s1.heap.objs.size + 3, s1.heap.objs.size, s1.heap.objs.size + 1], _, _, H1, rfl, I2, turn_zipM D D.TIz (Nat.ne_of_lt la) (Nat.ne_of_lt (Nat.lt_succ_of_lt lb)), ⟨hz, hTI, ⟨_, _, hTO⟩, kIter_0 h1, kIter_0 h2⟩, fresh5, q⟩
end RZ
namespace FS
open PySem PySem.Spec L2
theorem enum_zipM {K : PySem.W.Frag} {G : Wd} {k l : Bool} {a b : Addr} {vs ws : List V} {xs ys : List PV} (r1 : RepL K G xs vs) (r2 : RepL K G ys ws) (h1 : ∀ G1, Mon G G1 → RZ.SqK K k G1.H a vs) (h2 : ∀ G1, Mon G G1 → RZ.SqK K l G1.H b ws) : Enum K (RZ.ItzM K k l a b) G ((xs.zip ys).map fun c => PV.tuz [c.1, c.2]) :=
  ⟨fun i G1 M hl => ⟨vs, ws, h1 G1 M, h2 G1 M, by
    rw [List.length_map, List.length_zip] at hl
    rw [← r1.length, ← r2.length]
    omega⟩, fun i p G1 M su e => by
    rw [List.getElem?_map] at e
    cases q : (xs.zip ys)[i]? with
    | none => rw [q] at e; cases e
    | some c =>
      rw [q] at e
      cases e
      obtain ⟨e1, e2⟩ := zip_get q
      obtain ⟨v, f1, g1⟩ := r1.get e1
      obtain ⟨w, f2, g2⟩ := r2.get e2
      refine ⟨⟨vs, ws, v, w, h1 G1 M, h2 G1 M, f1, f2⟩, fun x H' y => ?_⟩
      obtain ⟨T, x1, y1, rfl, hn, rfl, k1, k2⟩ := y
      have := k1 vs (h1 G1 M)
      rw [f1] at this
      cases this
      have := k2 ws (h2 G1 M)
      rw [f2] at this
      cases this
      obtain ⟨z1, z2, z3⟩ := pair_new su hn (g1.mon M) (g2.mon M)
      exact ⟨_, rfl, z1, z2, z3⟩⟩
section
variable {X : Cx} {z : Zx} {pos p : Pos} {da : Cd (List PV)}
/-- zip of two sequences -/
def zipM (ps : List PV) : Option (List PV) := match ps with
  | [p, q] => match itemsF p, itemsF q with
    | some xs, some ys => some ((xs.zip ys).map fun c => PV.tuz [c.1, c.2])
    | _, _ => none
  | _ => none
def dZipM (d : Cd (List PV)) : Cd (List PV) := bnd d fun ps => lift (zipM ps)
theorem itemsF_K {K : PySem.W.Frag} {G : Wd} {p : PV} {xs : List PV} {v : V} (h : itemsF p = some xs) (r : Rep K G p v) : ∃ k a vs, v = .ref a ∧ RepL K G xs vs ∧ ∀ G1, Mon G G1 → RZ.SqK K k G1.H a vs := by
  obtain ⟨a, vs, e, rr, hh⟩ := itemsF_rep h r
  rcases hh with hh | hh
  · exact ⟨false, a, vs, e, rr, hh⟩
  · exact ⟨true, a, vs, e, rr, hh⟩
theorem mi_zipM {a b : Expr} {elts : List Expr} {kk : Nat} {tpos : Pos} (hm : X.mg "zip" = none) (ha : MA X z [a, b] da) (hK : z.K = X.K := by rfl) (hg : Gl X "zip" := by rfl) (hs : starEach [a, b] X.env = (false, eval a X.env) :: starEach [b] X.env := by rfl) (hpl : (backTo pos (starEach [b] X.env)).any (·.1) = false := by rfl) :
    MI X z (.Tuple elts kk tpos) (.Call (.Name "zip" p) [a, b] [] pos) (dZipM da) := by
  refine PI.imp (RZ.pi_zipM hg hm ha hs hpl) fun σ H R ⟨G, env, S, e, A, P⟩ => ?_
  subst e
  refine toA lwI A P fun ps env1 S1 vs G1 m1 A1 r1 P1 => ?_
  unfold lift at P1
  cases e : zipM ps with
  | none => simp only [e] at P1; exact P1.elim
  | some qs =>
    simp only [e] at P1
    match ps, e with
    | [p, q], e =>
      obtain ⟨v, w, rfl, r2, r3⟩ := repL2 r1
      simp only [zipM] at e
      cases e1 : itemsF p with
      | none => simp only [e1] at e; cases e
      | some xs =>
        cases e2 : itemsF q with
        | none => simp only [e1, e2] at e; cases e
        | some ys =>
          simp only [e1, e2] at e
          cases e
          rw [← hK]
          obtain ⟨k, a1, us, rfl, s1, k1⟩ := itemsF_K e1 r2
          obtain ⟨l, a2, ts, rfl, s2, k2⟩ := itemsF_K e2 r3
          exact ⟨k, l, a1, a2, us, ts, rfl, k1 G1 (Mon.refl _), k2 G1 (Mon.refl _), P1 _ G1 (Mon.refl _) A1 (enum_zipM s1 s2 k1 k2)⟩
end
end FS
set_option Elab.async false
set_option linter.all false
set_option maxRecDepth 100000
/-! FsTry: try with several clauses, each with or without a name. -/
namespace L2
open PySem PySem.Spec PyProof.Rows
/-- a clause: the class, the name's place (if there is one), the suite -/
abbrev Clause := Value × Option Nat × (Addr → Value → Option Addr → TS)
/-- the ends of a suite whose name goes -/
def goneEnds (D : Ends) (i : Nat) : Ends := { nx := fun σ H => D.nx (σ.set i none) H, rt := D.rt, bk := fun σ H => D.bk (σ.set i none) H, ct := fun σ H => D.ct (σ.set i none) H }
/-- what is wished of an error of the body -/
def wCl (K : PySem.W.Frag) (Wout : WX) (D : Ends) : List Clause → WX
  | [] => Wout
  | (c, none, ts) :: r => fun cls d σ H => ∃ b, PySem.W.exmOne K cls c = some b ∧ (b = true → ∀ a, H a = none → ts a cls d D σ H) ∧ (b = false → wCl K Wout D r cls d σ H)
  | (c, some i, ts) :: r => fun cls d σ H => ∃ b, PySem.W.exmOne K cls c = some b ∧ (b = true → ∀ a, H a = none → ts a cls d (goneEnds D i) (σ.set i (some (.ref a))) H) ∧ (b = false → wCl K Wout D r cls d σ H)
inductive ClOk (X : Cx) : List ExceptHandler → List Clause → Prop
  | nil : ClOk X [] []
  | bare {x : Str} {c : Value} {ts : Addr → Value → Option Addr → TS} {b0 : Stmt} {suite : List Stmt} {np pos' : Pos} {hds : List ExceptHandler} {l : List Clause} (hc : Names X x c)
      (hsu : ∀ (a : Addr) (oe : Obj) (cls : Value) (d : Option Addr) (pn : List (Addr × Obj)), Zc cls d oe → (∃ vs, oe.data = .fields vs) → PSs (X.suite a ((a, oe) :: pn)) (b0 :: suite) (ts a cls d)) (r : ClOk X hds l) :
      ClOk X (.ExceptHandler (some (.Name x np)) none (b0 :: suite) pos' :: hds) ((c, none, ts) :: l)
  | named {x n : Str} {i : Nat} {c : Value} {ts : Addr → Value → Option Addr → TS} {b0 : Stmt} {suite : List Stmt} {np pos' : Pos} {hds : List ExceptHandler} {l : List Clause} (hc : Names X x c) (hi : X.N[i]? = some n) (hln : X.env.kindOf n = some .local)
      (hsu : ∀ (a : Addr) (oe : Obj) (cls : Value) (d : Option Addr) (pn : List (Addr × Obj)), Zc cls d oe → (∃ vs, oe.data = .fields vs) → PSs (X.suite a ((a, oe) :: pn)) (b0 :: suite) (ts a cls d)) (r : ClOk X hds l) :
      ClOk X (.ExceptHandler (some (.Name x np)) (some n) (b0 :: suite) pos' :: hds) ((c, some i, ts) :: l)
/-- an error in flight stands in the handler's hands: what the clauses look at -/
structure Caught (X : Cx) (B : Heap) (pins : List (Addr × Obj)) (σ : St) (H : Hp) (sI : Shared) (a : Addr) (cls : Value) (d : Option Addr) (s : Shared) : Prop where
  J : Inv X pins σ H sI
  nb : ∀ b o, sI.heap.get? b = some o → b ∉ frs X.stack → B.get? b = some o
  fl : HandSPX.FlyingZ B (X.env :: X.outer) a (Zc cls d) s.heap
  up : sI.heap.UpToSlots s.heap
  os : s.os = sI.os
  ag : AllBare s.gens
  na : H a = none
  nL : a ≠ X.env.locals
  nF : a ∉ X.fs
section
variable {X : Cx} {pins : List (Addr × Obj)} {σ : St} {H : Hp} {sI s : Shared} {a : Addr} {cls : Value} {d : Option Addr} {B : Heap}
theorem Caught.inv (c : Caught X B pins σ H sI a cls d s) : Inv X pins σ H s := c.J.landed c.nb c.fl.1 c.up c.os c.ag
theorem Caught.suite (c : Caught X B pins σ H sI a cls d s) : ∃ oe, Zc cls d oe ∧ (∃ vs, oe.data = .fields vs) ∧ Inv (X.suite a ((a, oe) :: (X.pn ++ pins))) [] σ H s := by
  obtain ⟨oe, vs, he, hz, hd⟩ := c.fl.there
  exact ⟨oe, hz, ⟨vs, hd⟩, c.inv.suite he hd c.na c.nL c.nF⟩
/-- the class that a clause names is read -/
theorem Caught.names (c : Caught X B pins σ H sI a cls d s) {x : Str} {np : Pos} {cv : Value} (hc : Names X x cv) {Q : Value → Shared → Prop} {E : Value → Shared → Prop} (q : Q cv s) :
    wpAny (model X.prog X.w) (X.A.mark (some (.ref a))) (eval (.Name x np) X.env) Q E s := by
  obtain ⟨oe, _, _, S⟩ := c.suite
  obtain ⟨hg, hdbg, hm | ⟨hm, hv, hnn⟩⟩ := hc
  · exact ld_glob (X := X.suite a ((a, oe) :: (X.pn ++ pins))) S hg hm q hdbg
  · exact ld_blt (X := X.suite a ((a, oe) :: (X.pn ++ pins))) S hg hm hv q hnn hdbg
end
section
variable {X : Cx} {Wout : WX} {D : Ends}
/-- the clauses, one behind another -/
theorem clauses_run (hs : X.stack = X.env :: X.outer) (hf : X.env.frame = some X.env.locals) (hN : X.N.Nodup) (tk : Takes X Wout) {pins : List (Addr × Obj)} {σ : St} {H : Hp} {sI s : Shared} {a : Addr} {cls : Value} {d : Option Addr} {B : Heap}
    (c : Caught X B pins σ H sI a cls d s) : ∀ {hds : List ExceptHandler} {l : List Clause}, ClOk X hds l → wCl X.K Wout D l cls d σ H →
      wpAny (model X.prog X.w) X.A (handleBy (.ref a) X.env hds) (SP X pins D) X.xe s := by
  have ok := c.J.ok
  obtain ⟨oe3, vs3, he3, hz3, hd3⟩ := c.fl.there
  have LT : PySem.W.Looks (model X.prog X.w) s.heap (typeOf (.ref a)) cls := fun A Q E s k q => wpAny_typeOf_ref (k _ _ he3) (by rw [hz3.1]; exact q)
  intro hds l hk
  induction hk with
  | nil =>
    intro w
    refine wpAny_handleBy_nil ?_
    obtain ⟨k1, k2, k3, oe, vs, T, oT, ts', he, hz, hd, h1, hr⟩ := id c.fl
    unfold PySem.passOn
    refine wpAny_bind (wpAny_field he hd h1 ?_)
    rw [if_neg (by simp : ¬ ((Value.ref T == Value.none) = true))]
    have out : wpAny (model X.prog X.w) X.A (setFlight (.ref a) X.env.frame) (fun _ s4 => wpAny (model X.prog X.w) X.A (throw (.ref a) : Sem Flow) (SP X pins D) X.xe s4) X.xe s := by
      rw [hf]
      exact HandSPX.setFlight_upZ c.fl fun h4 hh4 up4 => wpAny_throw (tk _ _ ⟨a, B, sI, pins, σ, H, cls, d, rfl, c.J, c.nb, c.up.trans up4, .inr (.inr (by rw [hs]; exact hh4)), c.na, c.os, c.ag, w⟩)
    first
      | exact wpAny_bind (wpAny_pure (wpAny_bind out))
      | exact wpAny_bind out
  | @bare x cv ts b0 suite np pos' hds2 l2 hc hsu r ih =>
    rintro ⟨b, hb, hyes, hno⟩
    have LM := PySem.W.exm_one (M := model X.prog X.w) c.inv.kIn LT hb
    refine wpAny_handleBy_cons (codeAny_handlers_test (c.names hc (LM.here ?_))) (by intro q; cases q)
    cases b with
    | false => exact ih (hno rfl)
    | true =>
      refine codeAny_handlers_suite (HandSPX.lands_againZ c.fl fun h4 fl4 up4 => ?_)
      have c4 : Caught X B pins σ H sI a cls d { s with heap := h4 } := ⟨c.J, c.nb, fl4, c.up.trans up4, c.os, c.ag, c.na, c.nL, c.nF⟩
      obtain ⟨oe, hz, hv, S4⟩ := c4.suite
      refine wpAny_mono ((hsu a oe cls d (X.pn ++ pins) hz hv).run [] _ _ H _ S4 (hyes rfl a c.na)) (fun f s6 hsp => ?_) (fun _ _ z => False.elim z)
      cases f with
      | next => exact hsp.elim fun σ6 ⟨H6, S6, q6⟩ => ⟨σ6, H6, S6.unsuite ok, q6⟩
      | brk => exact hsp.elim fun σ6 ⟨H6, S6, q6⟩ => ⟨σ6, H6, S6.unsuite ok, q6⟩
      | cont => exact hsp.elim fun σ6 ⟨H6, S6, q6⟩ => ⟨σ6, H6, S6.unsuite ok, q6⟩
      | ret u => exact hsp.elim fun v6 ⟨σ6, H6, S6, r6, q6⟩ => ⟨v6, σ6, H6, S6.unsuite ok, r6, q6⟩
  | @named x n i cv ts b0 suite np pos' hds2 l2 hc hi hln hsu r ih =>
    rintro ⟨b, hb, hyes, hno⟩
    have LM := PySem.W.exm_one (M := model X.prog X.w) c.inv.kIn LT hb
    refine wpAny_handleBy_cons (codeAny_handlers_test (c.names hc (LM.here ?_))) (by intro q; cases q)
    cases b with
    | false => exact ih (hno rfl)
    | true =>
      refine codeAny_handlers_suite_as (HandSPX.lands_againZ c.fl fun h4 fl4 up4 => ?_)
      have c4 : Caught X B pins σ H sI a cls d { s with heap := h4 } := ⟨c.J, c.nb, fl4, c.up.trans up4, c.os, c.ag, c.na, c.nL, c.nF⟩
      obtain ⟨oe, hz, hv, S4⟩ := c4.suite
      refine store_ok (X := X.suite a ((a, oe) :: (X.pn ++ pins))) (v := .ref a) S4 hN hi (.inl hln) rfl (fun s5 S5 => ?_) (.inr hln)
      refine wpAny_mono ((hsu a oe cls d (X.pn ++ pins) hz hv).run [] s5 _ H _ S5 (hyes rfl a c.na)) (fun f s6 hsp => ?_) (fun _ _ z => False.elim z)
      have away : ∀ {σ6 : St} {H6 : Hp} {Q : Shared → Prop}, Inv (X.suite a ((a, oe) :: (X.pn ++ pins))) [] σ6 H6 s6 → (∀ s7, Inv X pins (σ6.set i none) H6 s7 → Q s7) →
          wpAny (model X.prog X.w) X.A (do bindName X.env n .none; unbindBehindTheSuite X.env n pos') (fun _ s7 => Q s7) X.xe s6 := fun S6 hq => gone_ok (S6.unsuite ok) hN hi hln hq
      cases f with
      | next => exact hsp.elim fun σ6 ⟨H6, S6, q6⟩ => away S6 fun s7 J7 => ⟨_, _, J7, q6⟩
      | brk => exact hsp.elim fun σ6 ⟨H6, S6, q6⟩ => away S6 fun s7 J7 => ⟨_, _, J7, q6⟩
      | cont => exact hsp.elim fun σ6 ⟨H6, S6, q6⟩ => away S6 fun s7 J7 => ⟨_, _, J7, q6⟩
      | ret u => exact hsp.elim fun v6 ⟨σ6, H6, S6, r6, q6⟩ => away S6 fun s7 J7 => ⟨_, _, _, J7, r6, q6⟩
variable {body : List Stmt} {h0 : ExceptHandler} {hds : List ExceptHandler} {l : List Clause} {pos : Pos} {tb : WX → TS}
theorem ps_try_cl (hs : X.stack = X.env :: X.outer) (hf : X.env.frame = some X.env.locals) (hN : X.N.Nodup) (tk : Takes X Wout)
    (hb : ∀ (W : WX) (pn : List (Addr × Obj)) (xe : Value → Shared → Prop), Takes (X.tr pn xe) W → PassesOwn (model X.prog X.w) X.A X.env xe → PSs (X.tr pn xe) body (tb W))
    (hh : ClOk X (h0 :: hds) l) : PS X (.Try body (h0 :: hds) [] [] pos) (fun D σ H => tb (wCl X.K Wout D l) D σ H) := by
  refine ⟨fun pins s σ H D I h => ?_⟩
  have ok := I.ok
  have hfr : X.A.frames = some (X.env :: X.outer) := by rw [ok.frames, hs]
  have hbody := hb (wCl X.K Wout D l) (X.pn ++ pins) (fun e s1 => wpAny (model X.prog X.w) X.A (noteFrame e X.env) (fun _ s2 => wpAny (model X.prog X.w) X.A (setFlight e none) (fun _ s3 =>
    wpAny (model X.prog X.w) X.A (handleBy e X.env (h0 :: hds)) (SP X pins D) X.xe s3) X.xe s2) X.xe s1) (fun u s' xx => by
      obtain ⟨a, B, sI, pins', σ', H', cls, d, rfl, J', nb, up, sky, na, os, ag, w⟩ := xx
      have J : Inv X pins σ' H' sI := J'.ofTry ok
      have sky' : Sky B (X.env :: X.outer) a (Zc cls d) X.env.locals s'.heap := by rw [← hs]; exact sky
      refine Sky.land Zc.steady hfr hf sky' fun h3 fl3 up3 => ?_
      obtain ⟨oe3, vs3, he3, _, hd3⟩ := fl3.there
      have nfr : a ∉ frs (X.env :: X.outer) := fun hm => by
        obtain ⟨_, o', e', hnf⟩ := fl3.2.2.1.mem hm
        rw [he3] at e'
        cases e'
        exact hnf _ hd3
      refine clauses_run hs hf hN tk (s := { s' with heap := h3 }) ⟨J, nb, fl3, up.trans up3, os, ag, na, fun z => nfr ?_, fun hm => nfr ?_⟩ hh w
      · exact List.mem_filterMap.mpr ⟨X.env, List.mem_cons_self, by rw [hf, z]⟩
      · obtain ⟨e, he, q⟩ := List.mem_filterMap.mp hm
        exact List.mem_filterMap.mpr ⟨e, List.mem_cons_of_mem _ he, q⟩) PassesOwn.looking
  refine wpAny_Try_except (wpAny_mono (hbody.run [] s σ H D (I.toTry _) h) (fun f s1 hsp => ?_) (fun e s1 he => he))
  cases f with
  | next => exact hsp.elim fun σ' ⟨H', J', q⟩ => wpAny_execs_nil ⟨σ', H', J'.ofTry ok, q⟩
  | brk => exact hsp.elim fun σ' ⟨H', J', q⟩ => ⟨σ', H', J'.ofTry ok, q⟩
  | cont => exact hsp.elim fun σ' ⟨H', J', q⟩ => ⟨σ', H', J'.ofTry ok, q⟩
  | ret u => exact hsp.elim fun v ⟨σ', H', J', r, q⟩ => ⟨v, σ', H', J'.ofTry ok, r, q⟩
end
end L2
set_option Elab.async false
set_option linter.all false
set_option maxRecDepth 100000
/-! FsTry2: try as data; what a caught error tells. -/
namespace L2
open PySem PySem.Spec PyProof.Rows
/-- what the written part says of an error's class, for those who ask its instances -/
structure ErA (K : PySem.W.Frag) (C : Addr) : Prop where
  ga : PySem.W.findIn K (.ref C) "__getattribute__" = some (some (.builtin "BaseException.__getattribute__"))
  gg : PySem.W.findIn K (.ref C) "__getattr__" = some none
  exC : PySem.W.subIn K (.ref C) (.type "BaseException") = some true
  hdC : PySem.W.hasDictIn K C = true
  noW : PySem.W.findIn K (.ref C) "what" = some none
section
variable {X : Cx} {a d C : Addr} {oe : Obj} {pn : List (Addr × Obj)}
/-- e.what -/
def tWhat (a d : Addr) (te : TE) : TE := fun σ H Q => te σ H fun x H1 => x = .ref a ∧ ∃ v : V, H1 d = some (.xd [(("what" : Str), v)]) ∧ Q v H1
theorem pe_what {e : Expr} {te : TE} {pos : Pos} (T : ErA X.K C) (hz : Zc (.ref C) (some d) oe) (hf : ∃ vs, oe.data = .fields vs) (he : PE (X.suite a ((a, oe) :: pn)) e te)
    (hb : attributeBase e "what" X.env (eval e X.env) = eval e X.env := by rfl) : PE (X.suite a ((a, oe) :: pn)) (.Attribute e "what" pos) (tWhat a d te) := by
  refine ⟨fun pins s σ H Q I h => attr_of hb (thn (he.run pins s σ H _ I h) fun u s1 ⟨x, H1, I1, rx, ex, v, ea, q⟩ => ?_)⟩
  subst ex
  obtain rfl : u = Value.ref a := rx
  obtain ⟨ha, _⟩ := I1.pin (a, oe) (List.mem_append_left _ List.mem_cons_self)
  obtain ⟨vs, hd⟩ := hf
  have hx : ObjOk X.prog X.w H1 s1.heap d (.xd [(("what" : Str), v)]) := I1.hok d _ ea
  obtain ⟨mA, hns, hr⟩ := hx
  obtain ⟨od, ho, hl⟩ := lookIn_ns hns
  have l : List.lookup ("what" : Str) [(("what" : Str), v)] = some v := by simp [List.lookup]
  obtain ⟨u, hu, ru⟩ := RelO.some_of (v := v) (o := mA "what") (by rw [← l]; exact hr "what")
  have J : PySem.W.InstAt s1.heap a oe C (some od) := ⟨ha, hz.1, by unfold PySem.W.notCls; rw [hd] <;> rfl, by rw [hz.2]; exact ho⟩
  exact HandSPX.exc_get I1.kIn J T.ga T.gg T.exC (PySem.W.findObj_own T.hdC T.noW rfl (by rw [hl, hu])) (handed_of ru) ⟨v, H1, I1.tok _, ru, q⟩
/-- .. more, for isinstance -/
structure ErI (K : PySem.W.Frag) (C : Addr) : Prop where
  ga : PySem.W.findIn K (.ref C) "__getattribute__" = some (some (.builtin "BaseException.__getattribute__"))
  gg : PySem.W.findIn K (.ref C) "__getattr__" = some none
  exC : PySem.W.subIn K (.ref C) (.type "BaseException") = some true
  hdC : PySem.W.hasDictIn K C = true
  ha : PySem.W.findIn K (.ref C) "__class__" = some (some (.builtin "object.__class__"))
  hn : PySem.W.specialIn K (.builtin "object.__class__") "__get__" = some (some (.builtin "getset_descriptor.__get__"))
  ht : PySem.W.takesIn K (.builtin "object.__class__") = some true
  hm : PySem.W.mroIn K C (.type "object") = some true
def rIsX (K : PySem.W.Frag) (C a d : Addr) : List V → Hp → VK → Prop := fun xs H Q => ∃ (c : V) (cv : Value) (b : Bool) (fs : List (Str × V)), xs = [.ref a, c] ∧ H d = some (.xd fs) ∧ (∀ u, RelV c u → u = cv) ∧ PySem.W.kitOne K (.ref C) cv = some b ∧ Q (.bl b) H
theorem call_isX (T : ErI X.K C) (hz : Zc (.ref C) (some d) oe) (hf : ∃ vs, oe.data = .fields vs) : CallR (X.suite a ((a, oe) :: pn)) (.builtin "isinstance") (rIsX X.K C a d) := by
  intro pins s σ H xs us Q I r h
  obtain ⟨c, cv, b, fs, rfl, hd, hcv, e, q⟩ := h
  obtain ⟨u1, u2, rfl, rx, rt⟩ := vals2 r
  obtain rfl : u1 = Value.ref a := rx
  obtain rfl := hcv _ rt
  obtain ⟨hget, _⟩ := I.pin (a, oe) (List.mem_append_left _ List.mem_cons_self)
  obtain ⟨vs, hv⟩ := hf
  have hx : ObjOk X.prog X.w H s.heap d (.xd fs) := I.hok d _ hd
  obtain ⟨mA, hns, hr⟩ := hx
  obtain ⟨od, ho, hl⟩ := lookIn_ns hns
  have J : PySem.W.InstAt s.heap a oe C (some od) := ⟨hget, hz.1, by unfold PySem.W.notCls; rw [hv] <;> rfl, by rw [hz.2]; exact ho⟩
  have hcl : (PySem.W.clsIn X.K C).isSome = true := by
    obtain ⟨cd, hc, _⟩ := PySem.W.any_some T.hdC
    rw [hc]
    rfl
  exact PySem.W.kia_one (PySem.W.kitx_exc (od := some od) hcl T.ga T.gg T.exC T.ha T.hn T.ht T.hm) I.kIn J e (fun z => nomatch z) fun tk => ⟨.bl b, H, I.kept (t' := tk) fun _ _ z => z, rfl, q⟩
end
end L2
namespace FS
open PySem PySem.Spec L2
/-- which clauses take which errors -/
def catches (h c : Str) : Bool := decide (h = c) || decide (h = ("Refused" : Str)) || decide (h = ("ValueError" : Str))
def clearO (i : Nat) : Out Flw → Out Flw
  | .ok f e s => .ok f (e.set i .none) s
  | _ => .bad
def quiet : Out Flw → Out Flw
  | .ok f e s => .ok f e s
  | _ => .bad
/-- a clause: its class's name, its name's place, its suite (by the error's class, its address and its dict's) -/
structure Hdl where
  h : Str
  i : Option Nat
  d : Str → Addr → Addr → Cd Flw
open Classical in
noncomputable def hdl : List Hdl → Str → PV → Cd Flw
  | [], c, w => fun e s => .raise c w e s
  | ⟨h, none, d⟩ :: r, c, w => if catches h c = true then fun e s => quiet (d c 0 0 e s) else hdl r c w
  | ⟨h, some i, d⟩ :: r, c, w => if catches h c = true then fun e s => if ∀ a b : Addr, clearO i (d c a b (e.set i (.exc a b w)) s) = clearO i (d c 0 0 (e.set i (.exc 0 0 w)) s) then clearO i (d c 0 0 (e.set i (.exc 0 0 w)) s) else .bad
    else hdl r c w
noncomputable def dTry (tab : List Str) (hs : List Hdl) (d : Cd Flw) : Cd Flw := fun e s => match d e s with
  | .raise c w e' s' => if tab.contains c = true then hdl hs c w e' s' else .bad
  | .ok f e' s' => .ok f e' s'
  | .bad => .bad
section
variable {X : Cx} {z : Zx}
abbrev zs (z : Zx) : Zx := ⟨z.K, z.mg, z.G0, fun _ _ _ _ => False⟩
abbrev zw (z : Zx) (W : WX) : Zx := ⟨z.K, z.mg, z.G0, W⟩
def tsOf (z : Zx) (tab : List Str) (dd : Str → Addr → Addr → Cd Flw) (nm : Bool) : Addr → Value → Option Addr → TS := fun a cls d D σ H => ∃ c b, d = some b ∧ z.mg c = some cls ∧ tab.contains c = true ∧ RS (zs z) (if nm = true then dd c a b else dd c 0 0) D σ H
/-- the clauses of the text, as data -/
inductive HsOk (X : Cx) (z : Zx) (tab : List Str) : List ExceptHandler → List Hdl → List Clause → Prop
  | nil : HsOk X z tab [] [] []
  | bare {x : Str} {cv : Value} {b0 : Stmt} {suite : List Stmt} {np pos' : Pos} {hds : List ExceptHandler} {hs : List Hdl} {l : List Clause} {dd : Str → Addr → Addr → Cd Flw} (hc : Names X x cv) (hex : ∀ c cls, tab.contains c = true → z.mg c = some cls → PySem.W.exmOne X.K cls cv = some (catches x c))
      (hsu : ∀ (a : Addr) (oe : Obj) (cls : Value) (b : Addr) (pn : List (Addr × Obj)) (c : Str), Zc cls (some b) oe → (∃ vs, oe.data = .fields vs) → z.mg c = some cls → tab.contains c = true → MSs (X.suite a ((a, oe) :: pn)) (zs z) (b0 :: suite) (dd c 0 0)) (r : HsOk X z tab hds hs l) :
      HsOk X z tab (.ExceptHandler (some (.Name x np)) none (b0 :: suite) pos' :: hds) (⟨x, none, dd⟩ :: hs) ((cv, none, tsOf z tab dd false) :: l)
  | named {x n : Str} {i : Nat} {cv : Value} {b0 : Stmt} {suite : List Stmt} {np pos' : Pos} {hds : List ExceptHandler} {hs : List Hdl} {l : List Clause} {dd : Str → Addr → Addr → Cd Flw} (hc : Names X x cv) (hi : X.N[i]? = some n) (hln : X.env.kindOf n = some .local)
      (hex : ∀ c cls, tab.contains c = true → z.mg c = some cls → PySem.W.exmOne X.K cls cv = some (catches x c))
      (hsu : ∀ (a : Addr) (oe : Obj) (cls : Value) (b : Addr) (pn : List (Addr × Obj)) (c : Str), Zc cls (some b) oe → (∃ vs, oe.data = .fields vs) → z.mg c = some cls → tab.contains c = true → MSs (X.suite a ((a, oe) :: pn)) (zs z) (b0 :: suite) (dd c a b)) (r : HsOk X z tab hds hs l) :
      HsOk X z tab (.ExceptHandler (some (.Name x np)) (some n) (b0 :: suite) pos' :: hds) (⟨x, some i, dd⟩ :: hs) ((cv, some i, tsOf z tab dd true) :: l)
theorem HsOk.cl {tab : List Str} {hds : List ExceptHandler} {hs : List Hdl} {l : List Clause} (h : HsOk X z tab hds hs l) : ClOk X hds l := by
  induction h with
  | nil => exact .nil
  | @bare x cv b0 suite np pos' hds hs l dd hc hex hsu r ih =>
    refine .bare hc (fun a oe cls d pn hz hv => ⟨fun pins s σ H D I h => ?_⟩) ih
    obtain ⟨c, b, rfl, hm, ht, q⟩ := h
    exact (hsu a oe cls b pn c hz hv hm ht).run pins s σ H D I q
  | @named x n i cv b0 suite np pos' hds hs l dd hc hi hln hex hsu r ih =>
    refine .named hc hi hln (fun a oe cls d pn hz hv => ⟨fun pins s σ H D I h => ?_⟩) ih
    obtain ⟨c, b, rfl, hm, ht, q⟩ := h
    exact (hsu a oe cls b pn c hz hv hm ht).run pins s σ H D I q
variable {G : Wd} {env : Env} {S : Stt} {σ : St}
/-- a new thing that is no list is frozen -/
theorem At.freezeX {a : Addr} {o : HO} (A : At z.K z.G0 G S env σ) (ha : G.H a = some o) (ho : ∀ vs, o ≠ .lst vs) (nt : NT o) (h0 : Nu z.G0.H a) : At z.K z.G0 (G.freeze a) S env σ := by
  have M : Mon G (G.freeze a) := mon_freeze
  refine ⟨⟨A.st.len, A.st.nd, fun b hb h => ?_, fun i b o h1 h2 => (A.st.ob i b o h1 h2).mono M⟩, A.en.over M fun i b hw e => ?_, ⟨A.ent.pre, A.ent.new, fun b h => .inl (A.ent.fz b h), fun b h => h.elim (A.ent.fzn b) fun e => .inr (by rw [e]; exact h0), A.ent.keep, A.ent.there, A.ent.T, A.ent.tb⟩, A.mine, fun b h => ?_⟩
  · rcases h with h | h
    · exact A.st.nf b hb h
    · rw [h] at hb
      obtain ⟨i, hi⟩ := List.getElem?_of_mem hb
      have hl : i < S.length := by rw [← A.st.len]; exact (List.getElem?_eq_some_iff.mp hi).1
      have q := A.st.ob i a S[i] hi (by simp [hl])
      cases e : S[i] with
      | lst xs =>
        rw [e] at q
        obtain ⟨vs, q, _⟩ := q
        rw [ha] at q
        cases q
        exact ho vs rfl
  · obtain ⟨xs, hw⟩ := hw
    obtain ⟨c, ws, e1, e2, _, n1, n2⟩ := A.en.own i xs hw
    rw [e] at e1
    cases e1
    refine ⟨rfl, fun h => ?_, n2⟩
    rcases h with h | h
    · exact n1 h
    · rw [h, ha] at e2
      cases e2
      exact ho ws rfl
  · rcases h with h | h
    · exact A.sure b h
    · exact ⟨o, by rw [h]; exact ha, nt⟩
open Classical in
theorem hdl_ok {tab : List Str} {hds : List ExceptHandler} {hs : List Hdl} {l : List Clause} (hk : HsOk X z tab hds hs l) {D : Ends} {c : Str} {w : PV} {e' : Env} {s' : Stt} (ht : tab.contains c = true) (P : PostS z G D (hdl hs c w e' s')) {σ' : St} {G' : Wd} {cls : Value} {d : Addr} {v : V}
    (M : Mon G G') (A : At z.K z.G0 G' s' e' σ') (hm : z.mg c = some cls) (h0 : Nu z.G0.H d) (hd : G'.H d = some (.xd [(("what" : Str), v)])) (rv : Rep z.K G' w v) : wCl X.K z.W D l cls (some d) σ' G'.H := by
  induction hk with
  | nil => exact P σ' G' cls d v M A hm h0 hd rv
  | @bare x cv b0 suite np pos' hds hs l dd hc hex hsu r ih =>
    refine ⟨catches x c, hex c cls ht hm, fun hb a na => ⟨c, d, rfl, hm, ht, G', e', s', rfl, A, ?_⟩, fun hb => ih ?_⟩
    · unfold hdl at P
      rw [if_pos hb] at P
      cases e : dd c 0 0 e' s' with
      | ok f e2 s2 =>
        rw [e] at P
        have P' := P.later M
        simp only [Bool.false_eq_true, if_false]
        rw [e]
        cases f <;> exact P'
      | raise c2 w2 e2 s2 => rw [e] at P; exact P.elim
      | bad => rw [e] at P; exact P.elim
    · unfold hdl at P
      rw [if_neg (by rw [hb]; exact Bool.false_ne_true)] at P
      exact P
  | @named x n i cv b0 suite np pos' hds hs l dd hc hi hln hex hsu r ih =>
    refine ⟨catches x c, hex c cls ht hm, fun hb a na => ?_, fun hb => ih ?_⟩
    · unfold hdl at P
      rw [if_pos hb] at P
      by_cases hall : ∀ a b : Addr, clearO i (dd c a b (e'.set i (.exc a b w)) s') = clearO i (dd c 0 0 (e'.set i (.exc 0 0 w)) s')
      · have P0 : PostS z G D (if ∀ a b : Addr, clearO i (dd c a b (e'.set i (.exc a b w)) s') = clearO i (dd c 0 0 (e'.set i (.exc 0 0 w)) s') then clearO i (dd c 0 0 (e'.set i (.exc 0 0 w)) s') else .bad) := P
        rw [if_pos hall, ← hall a d] at P0
        replace P := P0
        have M1 : Mon G' (G'.freeze d) := mon_freeze
        have A1 : At z.K z.G0 (G'.freeze d) s' (e'.set i (.exc a d w)) (σ'.set i (some (.ref a))) :=
          (A.freezeX hd (fun vs e => by cases e) nt_xd h0).setSlot0 (.inr (.inr ⟨a, d, w, rfl, rfl, .inr rfl, v, hd, rv.mon M1⟩))
        refine ⟨c, d, rfl, hm, ht, G'.freeze d, _, s', rfl, A1, ?_⟩
        rw [if_pos rfl]
        have P' := P.later (M.trans M1)
        cases e : dd c a d (e'.set i (.exc a d w)) s' with
        | ok f e2 s2 =>
          rw [e] at P'
          cases f with
          | next => exact fun σ2 G2 m2 A2 => P' (σ2.set i none) G2 m2 (A2.setSlot (.inl rfl))
          | brk => exact fun σ2 G2 m2 A2 => P' (σ2.set i none) G2 m2 (A2.setSlot (.inl rfl))
          | cont => exact fun σ2 G2 m2 A2 => P' (σ2.set i none) G2 m2 (A2.setSlot (.inl rfl))
          | ret p => exact fun u σ2 G2 m2 A2 r2 => P' u (σ2.set i none) G2 m2 (A2.setSlot (.inl rfl)) r2
        | raise c2 w2 e2 s2 => rw [e] at P'; exact P'.elim
        | bad => rw [e] at P'; exact P'.elim
      · have P0 : PostS z G D (if ∀ a b : Addr, clearO i (dd c a b (e'.set i (.exc a b w)) s') = clearO i (dd c 0 0 (e'.set i (.exc 0 0 w)) s') then clearO i (dd c 0 0 (e'.set i (.exc 0 0 w)) s') else .bad) := P
        rw [if_neg hall] at P0
        exact P0.elim
    · unfold hdl at P
      rw [if_neg (by rw [hb]; exact Bool.false_ne_true)] at P
      exact P
theorem ms_try {tab : List Str} {body : List Stmt} {h0 : ExceptHandler} {hds : List ExceptHandler} {hs : List Hdl} {l : List Clause} {pos : Pos} {d : Cd Flw} (hN : X.N.Nodup) (tk : Takes X z.W)
    (hb : ∀ (W : WX) (pn : List (Addr × Obj)) (xe : Value → Shared → Prop), Takes (X.tr pn xe) W → PassesOwn (model X.prog X.w) X.A X.env xe → MSs (X.tr pn xe) (zw z W) body d)
    (hh : HsOk X z tab (h0 :: hds) hs l) (hst : X.stack = X.env :: X.outer := by rfl) (hf : X.env.frame = some X.env.locals := by rfl) : MS X z (.Try body (h0 :: hds) [] [] pos) (dTry tab hs d) := by
  refine PS.imp (ps_try_cl hst hf hN tk (tb := fun W => RS (zw z W) d) hb hh.cl) fun D σ H ⟨G, env, S, e, A, P⟩ => ?_
  subst e
  refine ⟨G, env, S, rfl, A, ?_⟩
  unfold dTry at P
  cases e : d env S with
  | bad => rw [e] at P; exact P.elim
  | ok f e1 s1 =>
    rw [e] at P
    cases f <;> exact P
  | raise c w e1 s1 =>
    rw [e] at P
    simp only at P
    by_cases ht : tab.contains c = true
    · rw [if_pos ht] at P
      exact fun σ' G' cls dx v M A1 hm h0 hd rv => hdl_ok hh ht P M A1 hm h0 hd rv
    · rw [if_neg ht] at P
      exact P.elim
variable {a b C : Addr} {oe : Obj} {pn : List (Addr × Obj)} {pos p1 p2 p3 : Pos}
/-- e.what, e the error that the suite holds -/
def dWhat (i : Nat) (a b : Addr) : Cd PV := fun e s => match e[i]? with
  | some (.exc a' b' w) => if a' = a ∧ b' = b then .ok w e s else .bad
  | _ => .bad
theorem me_what (i : Nat) {n : Str} (T : ErA X.K C) (hz : Zc (.ref C) (some b) oe) (hv : ∃ vs, oe.data = .fields vs) (hN : X.N[i]? = some n := by rfl) (hvis : Vis X.env.scope n := by first | exact Or.inl rfl | exact Or.inr (Or.inl rfl) | exact Or.inr (Or.inr rfl)) (hd : (n == ("__debug__" : Str)) = false := by decide)
    (hcd : (n == ("__classdict__" : Str)) = false := by decide) (hb : attributeBase (.Name n p1) "what" X.env (eval (.Name n p1) X.env) = eval (.Name n p1) X.env := by rfl) :
    ME (X.suite a ((a, oe) :: pn)) z (.Attribute (.Name n p1) "what" pos) (dWhat i a b) := by
  refine PE.imp (pe_what T hz hv (pe_var (X := X.suite a ((a, oe) :: pn)) (i := i) hN hvis hd hcd) hb) fun σ H Q ⟨G, env, S, e, A, P⟩ => ?_
  subst e
  unfold dWhat at P
  cases q : env[i]? with
  | none => rw [q] at P; exact P.elim
  | some sl =>
    rw [q] at P
    cases sl with
    | none => exact P.elim
    | val p => exact P.elim
    | own xs => exact P.elim
    | exc a' b' w =>
      simp only at P
      by_cases h : a' = a ∧ b' = b
      · rw [if_pos h] at P
        obtain ⟨rfl, rfl⟩ := h
        obtain ⟨e1, f1, v, e2, r⟩ := A.en.exc i _ _ w q
        exact ⟨_, e1, rfl, v, e2, P v G (Mon.refl _) A r⟩
      · rw [if_neg h] at P
        exact P.elim
def dIsE (i : Nat) (a b : Addr) (k : Bool) : Cd PV := fun e s => match e[i]? with
  | some (.exc a' b' _) => if a' = a ∧ b' = b then .ok (.bl k) e s else .bad
  | _ => .bad
theorem me_isE (i : Nat) {n h : Str} {cv : Value} {c : V} {k : Bool} (T : ErI X.K C) (hz : Zc (.ref C) (some b) oe) (hv : ∃ vs, oe.data = .fields vs) (hc : PE (X.suite a ((a, oe) :: pn)) (.Name h p2) (tC c)) (hcv : ∀ u, RelV c u → u = cv) (hk : PySem.W.kitOne X.K (.ref C) cv = some k) (hm : X.mg "isinstance" = none)
    (hN : X.N[i]? = some n := by rfl) (hvis : Vis X.env.scope n := by first | exact Or.inl rfl | exact Or.inr (Or.inl rfl) | exact Or.inr (Or.inr rfl)) (hd : (n == ("__debug__" : Str)) = false := by decide)
    (hcd : (n == ("__classdict__" : Str)) = false := by decide) (hg : Gl X "isinstance" := by rfl)
    (hs1 : starEach [.Name n p1, .Name h p2] X.env = (false, eval (.Name n p1) X.env) :: starEach [.Name h p2] X.env := by rfl) (hs2 : starEach [.Name h p2] X.env = (false, eval (.Name h p2) X.env) :: starEach [] X.env := by rfl)
    (hpl : (backTo pos (starEach [.Name h p2] X.env)).any (·.1) = false := by rfl) :
    ME (X.suite a ((a, oe) :: pn)) z (.Call (.Name "isinstance" p3) [.Name n p1, .Name h p2] [] pos) (dIsE i a b k) := by
  refine PE.imp (pe_callB (X := X.suite a ((a, oe) :: pn)) (x := "isinstance") (call_isX (pn := pn) T hz hv) hg hm (by decide +kernel) (pa_cons (pe_var (X := X.suite a ((a, oe) :: pn)) (i := i) hN hvis hd hcd) (pa_cons hc pa_nil hs2) hs1) (by decide) (by decide) hs1 hpl) fun σ H Q ⟨G, env, S, e, A, P⟩ => ?_
  subst e
  unfold dIsE at P
  cases q : env[i]? with
  | none => rw [q] at P; exact P.elim
  | some sl =>
    rw [q] at P
    cases sl with
    | none => exact P.elim
    | val p => exact P.elim
    | own xs => exact P.elim
    | exc a' b' w =>
      simp only at P
      by_cases h : a' = a ∧ b' = b
      · rw [if_pos h] at P
        obtain ⟨rfl, rfl⟩ := h
        obtain ⟨e1, f1, v, e2, r⟩ := A.en.exc i _ _ w q
        exact ⟨_, e1, c, cv, k, _, rfl, e2, hcv, hk, P (.bl k) G (Mon.refl _) A (.bl k)⟩
      · rw [if_neg h] at P
        exact P.elim
end
end FS
set_option Elab.async false
set_option linter.all false
set_option maxRecDepth 100000
/-! FsLaw: a law's end. -/
namespace FS
open PySem PySem.Spec L2
end FS
set_option Elab.async false
set_option linter.all false
set_option maxRecDepth 100000
/-! FsWp: how a denotation is run, by what is wanted behind it. -/
namespace FS
open PySem L2
abbrev Pq (α : Type) := α → Env → Stt → Prop
abbrev Pr := Str → PV → Env → Stt → Prop
def Wp {α : Type} (o : Out α) (Q : Pq α) (R : Pr) : Prop := match o with
  | .ok a e s => Q a e s
  | .raise c w e s => R c w e s
  | .bad => False
def Fn (r : Res) (Q : PV → Stt → Prop) (R : Str → PV → Stt → Prop) : Prop := match r with
  | .ok p s => Q p s
  | .raise c w s => R c w s
  | .bad => False
abbrev noR : Str → PV → Stt → Prop := fun _ _ _ => False
/-- the ends of a body -/
def FQ (Q : PV → Stt → Prop) : Pq Flw
  | .next, _, s => Q .non s
  | .ret p, _, s => Q p s
  | .brk, _, _ => False
  | .cont, _, _ => False
/-- .. of a statement that others follow -/
def SQ (K : Env → Stt → Prop) (Q : Pq Flw) : Pq Flw
  | .next, e, s => K e s
  | .ret p, e, s => Q (.ret p) e s
  | .brk, e, s => Q .brk e s
  | .cont, e, s => Q .cont e s
/-- .. of a loop's body -/
def LQ (I : Env → Stt → Prop) (Q : Pq Flw) : Pq Flw
  | .next, e, s => I e s
  | .cont, e, s => I e s
  | .ret p, e, s => Q (.ret p) e s
  | .brk, e, s => Q .next e s
section
variable {α β : Type} {e : Env} {s : Stt} {R : Pr}
theorem Wp.mono {o : Out α} {Q Q' : Pq α} {R R' : Pr} (h : Wp o Q R) (hq : ∀ a e s, Q a e s → Q' a e s) (hr : ∀ c w e s, R c w e s → R' c w e s) : Wp o Q' R' := by
  cases o with
  | ok a e s => exact hq _ _ _ h
  | raise c w e s => exact hr _ _ _ _ h
  | bad => exact h
theorem Fn.mono {r : Res} {Q Q' : PV → Stt → Prop} {R R' : Str → PV → Stt → Prop} (h : Fn r Q R) (hq : ∀ a s, Q a s → Q' a s) (hr : ∀ c w s, R c w s → R' c w s) : Fn r Q' R' := by
  cases r with
  | ok a s => exact hq _ _ h
  | raise c w s => exact hr _ _ _ h
  | bad => exact h
theorem Fn.ok {r : Res} {Q : PV → Stt → Prop} (h : Fn r Q noR) : ∃ p s, r = .ok p s ∧ Q p s := by
  cases r with
  | ok a s => exact ⟨a, s, rfl, h⟩
  | raise c w s => exact h.elim
  | bad => exact h.elim
theorem Fn.of {r : Res} {Q : PV → Stt → Prop} {R : Str → PV → Stt → Prop} {p : PV} {s : Stt} (e : r = .ok p s) (h : Q p s) : Fn r Q R := by
  rw [e]
  exact h
theorem wp_ret {a : α} {Q : Pq α} (h : Q a e s) : Wp (ret a e s) Q R := h
theorem wp_ok {a : α} {Q : Pq α} (h : Q a e s) : Wp (.ok a e s) Q R := h
theorem wp_bnd {d : Cd α} {k : α → Cd β} {Q : Pq β} (h : Wp (d e s) (fun a e s => Wp (k a e s) Q R) R) : Wp (bnd d k e s) Q R := by
  unfold bnd
  cases q : d e s with
  | ok a e1 s1 => rw [q] at h; exact h
  | raise c w e1 s1 => rw [q] at h; exact h
  | bad => rw [q] at h; exact h
theorem wp_lift {o : Option α} {a : α} {Q : Pq α} (h : o = some a) (hq : Q a e s) : Wp (lift o e s) Q R := by
  subst h
  exact hq
/-! expressions -/
variable {Q : Pq PV}
theorem wp_use {i : Nat} {p : PV} (h : e[i]? = some (.val p)) (hq : Q p e s) : Wp (dUse i e s) Q R := by
  unfold dUse
  rw [h]
  exact hq
theorem wp_useO {i : Nat} {xs : List PV} (h : e[i]? = some (.own xs)) (hq : Q (.lst xs) (e.set i (.val (.lst xs))) s) : Wp (dUse i e s) Q R := by
  unfold dUse
  rw [h]
  exact hq
theorem wp_op {f : Stt → PV → PV → Option PV} {a b : Cd PV} (h : Wp (a e s) (fun p e s => Wp (b e s) (fun q e s => ∃ w, f s p q = some w ∧ Q w e s) R) R) : Wp (dOp f a b e s) Q R := by
  refine wp_bnd (Wp.mono h (fun p e1 s1 h1 => wp_bnd (Wp.mono h1 (fun q e2 s2 ⟨w, e3, h2⟩ => ?_) fun _ _ _ _ h => h)) fun _ _ _ _ h => h)
  show Wp (match f s2 p q with | some w => Out.ok w e2 s2 | none => .bad) Q R
  rw [e3]
  exact h2
theorem wp_un {f : PV → Option PV} {a : Cd PV} (h : Wp (a e s) (fun p e s => ∃ w, f p = some w ∧ Q w e s) R) : Wp (dUn f a e s) Q R :=
  wp_bnd (Wp.mono h (fun p e1 s1 ⟨w, e3, h2⟩ => wp_lift e3 h2) fun _ _ _ _ h => h)
theorem wp_nil {Q : Pq (List PV)} (h : Q [] e s) : Wp (dNil e s) Q R := h
theorem wp_cons {a : Cd PV} {r : Cd (List PV)} {Q : Pq (List PV)} (h : Wp (a e s) (fun p e s => Wp (r e s) (fun ps e s => Q (p :: ps) e s) R) R) : Wp (dCons a r e s) Q R :=
  wp_bnd (Wp.mono h (fun p e1 s1 h1 => wp_bnd h1) fun _ _ _ _ h => h)
theorem wp_tup {d : Cd (List PV)} (h : Wp (d e s) (fun ps e s => ps.length ≤ sizeLine ∧ Q (.tup ps) e s) R) : Wp (dTup d e s) Q R :=
  wp_bnd (Wp.mono h (fun ps e1 s1 ⟨hl, h1⟩ => by rw [if_pos hl]; exact h1) fun _ _ _ _ h => h)
theorem wp_disp {d : Cd (List PV)} {Q : Pq (List PV)} (h : Wp (d e s) (fun ps e s => ps.length ≤ sizeLine ∧ Q ps e s) R) : Wp (dDisp d e s) Q R :=
  wp_bnd (Wp.mono h (fun ps e1 s1 ⟨hl, h1⟩ => by rw [if_pos hl]; exact h1) fun _ _ _ _ h => h)
theorem wp_frz {d : Cd (List PV)} (h : Wp (d e s) (fun ps e s => Q (.lst ps) e s) R) : Wp (dFrz d e s) Q R := wp_bnd h
theorem wp_new {d : Cd (List PV)} (h : Wp (d e s) (fun xs e s => Q (.ref s.length) e (s ++ [.lst xs])) R) : Wp (dNew d e s) Q R := wp_bnd h
theorem wp_b {d : Cd PV} {Q : Pq Bool} (h : Wp (d e s) (fun p e s => ∃ b, asB p = some b ∧ Q b e s) R) : Wp (dB d e s) Q R :=
  wp_bnd (Wp.mono h (fun p e1 s1 ⟨w, e3, h2⟩ => wp_lift e3 h2) fun _ _ _ _ h => h)
theorem wp_tru {d : Cd PV} {Q : Pq Bool} (h : Wp (d e s) (fun p e s => ∃ b, tru s p = some b ∧ Q b e s) R) : Wp (dTru d e s) Q R :=
  wp_bnd (Wp.mono h (fun p e1 s1 ⟨w, e3, h2⟩ => by
    show Wp (match tru s1 p with | some b => Out.ok b e1 s1 | none => .bad) Q R
    rw [e3]
    exact h2) fun _ _ _ _ h => h)
theorem wp_notT {d : Cd Bool} {Q : Pq Bool} (h : Wp (d e s) (fun b e s => Q (!b) e s) R) : Wp (dNotT d e s) Q R := wp_bnd h
theorem wp_andT {d r : Cd Bool} {Q : Pq Bool} (h : Wp (d e s) (fun b e s => (b = true → Wp (r e s) Q R) ∧ (b = false → Q false e s)) R) : Wp (dAndT d r e s) Q R :=
  wp_bnd (Wp.mono h (fun b e1 s1 h1 => by
    cases b with
    | true => exact h1.1 rfl
    | false => exact h1.2 rfl) fun _ _ _ _ h => h)
theorem wp_orT {d r : Cd Bool} {Q : Pq Bool} (h : Wp (d e s) (fun b e s => (b = true → Q true e s) ∧ (b = false → Wp (r e s) Q R)) R) : Wp (dOrT d r e s) Q R :=
  wp_bnd (Wp.mono h (fun b e1 s1 h1 => by
    cases b with
    | true => exact h1.1 rfl
    | false => exact h1.2 rfl) fun _ _ _ _ h => h)
theorem wp_andV {d r : Cd PV} (h : Wp (d e s) (fun p e s => ∃ b, asB p = some b ∧ (b = true → Wp (r e s) Q R) ∧ (b = false → Q (.bl false) e s)) R) : Wp (dAndV d r e s) Q R :=
  wp_bnd (wp_b (Wp.mono h (fun p e1 s1 ⟨b, hb, h1⟩ => ⟨b, hb, by
    cases b with
    | true => exact h1.1 rfl
    | false => exact h1.2 rfl⟩) fun _ _ _ _ h => h))
theorem wp_orV {d r : Cd PV} (h : Wp (d e s) (fun p e s => ∃ b, asB p = some b ∧ (b = true → Q (.bl true) e s) ∧ (b = false → Wp (r e s) Q R)) R) : Wp (dOrV d r e s) Q R :=
  wp_bnd (wp_b (Wp.mono h (fun p e1 s1 ⟨b, hb, h1⟩ => ⟨b, hb, by
    cases b with
    | true => exact h1.1 rfl
    | false => exact h1.2 rfl⟩) fun _ _ _ _ h => h))
theorem wp_notV {d : Cd PV} (h : Wp (d e s) (fun p e s => ∃ b, asB p = some b ∧ Q (.bl (!b)) e s) R) : Wp (dNotV d e s) Q R := wp_bnd (wp_b h)
theorem wp_ife {t : Cd Bool} {a b : Cd PV} (h : Wp (t e s) (fun k e s => (k = true → Wp (a e s) Q R) ∧ (k = false → Wp (b e s) Q R)) R) : Wp (dIfE t a b e s) Q R :=
  wp_bnd (Wp.mono h (fun b e1 s1 h1 => by
    cases b with
    | true => exact h1.1 rfl
    | false => exact h1.2 rfl) fun _ _ _ _ h => h)
theorem wp_chain {f f' : Stt → PV → PV → Option PV} {a b c : Cd PV} (h : Wp (a e s) (fun p e s => Wp (b e s) (fun q e s => ∃ k, f s p q = some (.bl k) ∧ (k = true → Wp (c e s) (fun r e s => ∃ w, f' s q r = some w ∧ Q w e s) R) ∧ (k = false → Q (.bl false) e s)) R) R) : Wp (dChain f f' a b c e s) Q R := by
  refine wp_bnd (Wp.mono h (fun p e1 s1 h1 => wp_bnd (Wp.mono h1 (fun q e2 s2 ⟨k, e3, h2, h3⟩ => ?_) fun _ _ _ _ h => h)) fun _ _ _ _ h => h)
  show Wp (match f s2 p q with
    | some (.bl true) => bnd c (fun r => fun e' s' => match f' s' q r with | some w => .ok w e' s' | none => .bad) e2 s2
    | some (.bl false) => .ok (.bl false) e2 s2
    | _ => .bad) Q R
  rw [e3]
  cases k with
  | false => exact h3 rfl
  | true =>
    refine wp_bnd (Wp.mono (h2 rfl) (fun r e4 s4 ⟨w, e5, h5⟩ => ?_) fun _ _ _ _ h => h)
    show Wp (match f' s4 q r with | some w => Out.ok w e4 s4 | none => .bad) Q R
    rw [e5]
    exact h5
theorem wp_fn {g : Stt → List PV → Option PV} {d : Cd (List PV)} (h : Wp (d e s) (fun ps e s => ∃ w, g s ps = some w ∧ Q w e s) R) : Wp (dFn g d e s) Q R :=
  wp_bnd (Wp.mono h (fun ps e1 s1 ⟨w, e3, h2⟩ => by
    show Wp (match g s1 ps with | some w => Out.ok w e1 s1 | none => .bad) Q R
    rw [e3]
    exact h2) fun _ _ _ _ h => h)
theorem wp_call {n : Nat} {den : List PV → Stt → Res} {d : Cd (List PV)} (h : Wp (d e s) (fun ps e s => ps.length = n ∧ Fn (den ps s) (fun p s => Q p e s) (fun c w s => R c w e s)) R) : Wp (dCall n den d e s) Q R :=
  wp_bnd (Wp.mono h (fun ps e1 s1 ⟨hl, h1⟩ => by
    rw [if_pos hl]
    show Wp (match den ps s1 with | .ok p s' => Out.ok p e1 s' | .raise c w s' => .raise c w e1 s' | .bad => .bad) Q R
    cases q : den ps s1 with
    | ok p s2 => rw [q] at h1; exact h1
    | raise c w s2 => rw [q] at h1; exact h1
    | bad => rw [q] at h1; exact h1) fun _ _ _ _ h => h)
theorem wp_noPart {Q : Pq (Option Int)} (h : Q none e s) : Wp (dNoPart e s) Q R := h
theorem wp_part {d : Cd PV} {Q : Pq (Option Int)} (h : Wp (d e s) (fun p e s => ∃ i, p = .int i ∧ Q (some i) e s) R) : Wp (dPart d e s) Q R :=
  wp_bnd (Wp.mono h (fun p e1 s1 ⟨i, e3, h2⟩ => by
    subst e3
    exact h2) fun _ _ _ _ h => h)
theorem wp_cut {d : Cd PV} {l h' : Cd (Option Int)} (h : Wp (d e s) (fun p e s => Wp (l e s) (fun l e s => Wp (h' e s) (fun u e s => ∃ w, pCut s p l u = some w ∧ Q w e s) R) R) R) : Wp (dCut d l h' e s) Q R :=
  wp_bnd (Wp.mono h (fun p e1 s1 h1 => wp_bnd (Wp.mono h1 (fun l e2 s2 h2 => wp_bnd (Wp.mono h2 (fun u e3 s3 ⟨w, e4, h3⟩ => by
    show Wp (match pCut s3 p l u with | some w => Out.ok w e3 s3 | none => .bad) Q R
    rw [e4]
    exact h3) fun _ _ _ _ h => h)) fun _ _ _ _ h => h)) fun _ _ _ _ h => h)
theorem wp_list {d : Cd PV} {Q : Pq (List PV)} (h : Wp (d e s) (fun p e s => ∃ xs, itemsOf s p = some xs ∧ Q xs e s) R) : Wp (dListF d e s) Q R :=
  wp_bnd (Wp.mono h (fun p e1 s1 ⟨w, e3, h2⟩ => by
    show Wp (match itemsOf s1 p with | some w => Out.ok w e1 s1 | none => .bad) Q R
    rw [e3]
    exact h2) fun _ _ _ _ h => h)
theorem wp_mthO {i : Nat} {mf : List PV → List PV → Option (PV × List PV)} {d : Cd (List PV)} {ys : List PV} (h0 : e[i]? = some (.own ys))
    (h : Wp (d e s) (fun ps e s => ∃ xs w xs', e[i]? = some (.own xs) ∧ mf xs ps = some (w, xs') ∧ Q w (e.set i (.own xs')) s) R) : Wp (dMthO i mf d e s) Q R := by
  unfold dMthO
  simp only [h0]
  refine wp_bnd (Wp.mono h (fun ps e1 s1 ⟨xs, w, xs', q1, q2, h1⟩ => ?_) fun _ _ _ _ h => h)
  simp only [q1, q2]
  exact h1
theorem wp_mthR {mf : List PV → List PV → Option (PV × List PV)} {o : Cd PV} {d : Cd (List PV)} (h : Wp (o e s) (fun p e s => ∃ n ys, p = .ref n ∧ s[n]? = some (.lst ys) ∧ Wp (d e s) (fun ps e s => ∃ xs w xs', s[n]? = some (.lst xs) ∧ mf xs ps = some (w, xs') ∧ Q w e (s.set n (.lst xs'))) R) R) : Wp (dMthR mf o d e s) Q R := by
  refine wp_bnd (Wp.mono h (fun p e1 s1 ⟨n, ys, e2, h2, h3⟩ => ?_) fun _ _ _ _ h => h)
  subst e2
  simp only [h2]
  refine wp_bnd (Wp.mono h3 (fun ps e4 s4 ⟨xs, w, xs', q1, q2, h1⟩ => ?_) fun _ _ _ _ h => h)
  simp only [q1, q2]
  exact h1
/-! statements -/
variable {QS : Pq Flw} {d : Cd PV}
theorem wp_nxt (h : QS .next e s) : Wp (nxt e s) QS R := h
theorem wp_seq {a b : Cd Flw} (h : Wp (a e s) (SQ (fun e s => Wp (b e s) QS R) QS) R) : Wp (dSeq a b e s) QS R :=
  wp_bnd (Wp.mono h (fun f e1 s1 h1 => by cases f <;> exact h1) fun _ _ _ _ h => h)
theorem wp_drop (h : Wp (d e s) (fun _ e s => QS .next e s) R) : Wp (dDrop d e s) QS R := wp_bnd h
theorem wp_dret (h : Wp (d e s) (fun p e s => QS (.ret p) e s) R) : Wp (dRet d e s) QS R := wp_bnd h
theorem wp_if {t : Cd Bool} {a b : Cd Flw} (h : Wp (t e s) (fun k e s => (k = true → Wp (a e s) QS R) ∧ (k = false → Wp (b e s) QS R)) R) : Wp (dIf t a b e s) QS R :=
  wp_bnd (Wp.mono h (fun b e1 s1 h1 => by
    cases b with
    | true => exact h1.1 rfl
    | false => exact h1.2 rfl) fun _ _ _ _ h => h)
theorem wp_set {i : Nat} (h : Wp (d e s) (fun p e s => QS .next (e.set i (.val p)) s) R) : Wp (dSet i d e s) QS R := wp_bnd h
theorem wp_own {i : Nat} {d : Cd (List PV)} (h : Wp (d e s) (fun xs e s => QS .next (e.set i (.own xs)) s) R) : Wp (dOwn i d e s) QS R := wp_bnd h
theorem wp_asg {g : PV → Cd Unit} (h : Wp (d e s) (fun p e s => Wp (g p e s) (fun _ e s => QS .next e s) R) R) : Wp (dAsg d g e s) QS R :=
  wp_bnd (Wp.mono h (fun p e1 s1 h1 => wp_bnd h1) fun _ _ _ _ h => h)
theorem wp_gset {i : Nat} {p : PV} {Q : Pq Unit} (h : Q () (e.set i (.val p)) s) : Wp (gSet i p e s) Q R := h
theorem wp_gtup {n : Nat} {gs : List PV → Cd Unit} {p : PV} {ps : List PV} {Q : Pq Unit} (hp : p = .tup ps) (hl : ps.length = n) (h : Wp (gs ps e s) Q R) : Wp (gTupD n gs p e s) Q R := by
  subst hp
  unfold gTupD
  simp only [hl, if_true]
  exact h
theorem wp_gcons {g : PV → Cd Unit} {gs : List PV → Cd Unit} {p : PV} {ps : List PV} {Q : Pq Unit} (h : Wp (g p e s) (fun _ e s => Wp (gs ps e s) Q R) R) : Wp (gsCons g gs (p :: ps) e s) Q R := wp_bnd h
theorem wp_gnil {Q : Pq Unit} (h : Q () e s) : Wp (gsNil [] e s) Q R := h
theorem wp_par {i j : Nat} {d : Cd (List PV)} (h : Wp (d e s) (fun ps e s => ∃ p q, ps = [p, q] ∧ QS .next ((e.set i (.val p)).set j (.val q)) s) R) : Wp (dPar i j d e s) QS R :=
  wp_bnd (Wp.mono h (fun ps e1 s1 ⟨p, q, e2, h2⟩ => by
    subst e2
    exact h2) fun _ _ _ _ h => h)
theorem wp_setO {i : Nat} {di dv : Cd PV} (h : Wp (dv e s) (fun w e s => ∃ ys, e[i]? = some (.own ys) ∧ Wp (di e s) (fun k e s => ∃ xs j m, e[i]? = some (.own xs) ∧ k = .int j ∧ ixN xs.length j = some m ∧ QS .next (e.set i (.own (xs.set m w))) s) R) R) : Wp (dSetO i di dv e s) QS R := by
  refine wp_bnd (Wp.mono h (fun w e1 s1 ⟨ys, q0, h1⟩ => ?_) fun _ _ _ _ h => h)
  simp only [q0]
  refine wp_bnd (Wp.mono h1 (fun k e2 s2 ⟨xs, j, m, q1, q2, q3, h2⟩ => ?_) fun _ _ _ _ h => h)
  subst q2
  simp only [q1, q3]
  exact h2
theorem wp_setR {o di dv : Cd PV} (h : Wp (dv e s) (fun w e s => Wp (o e s) (fun p e s => Wp (di e s) (fun k e s => ∃ n xs j m, p = .ref n ∧ k = .int j ∧ s[n]? = some (.lst xs) ∧ ixN xs.length j = some m ∧ QS .next e (s.set n (.lst (xs.set m w)))) R) R) R) : Wp (dSetR o di dv e s) QS R := by
  refine wp_bnd (Wp.mono h (fun w e1 s1 h1 => wp_bnd (Wp.mono h1 (fun p e2 s2 h2 => wp_bnd (Wp.mono h2 (fun k e3 s3 ⟨n, xs, j, m, q1, q2, q3, q4, h3⟩ => ?_) fun _ _ _ _ h => h)) fun _ _ _ _ h => h)) fun _ _ _ _ h => h)
  subst q1 q2
  simp only [q3, q4]
  exact h3
theorem wp_raise {c : Str} (h : Wp (d e s) (fun p e s => R c p e s) R) : Wp (dRaise c d e s) QS R := wp_bnd h
/-! loops -/
theorem wp_forL {g : PV → Cd Unit} {b : Cd Flw} (I : Nat → Env → Stt → Prop) : ∀ (ps : List PV) (n : Nat) (e : Env) (s : Stt), I n e s →
    (∀ (i : Nat) (p : PV) (e : Env) (s : Stt), ps[i]? = some p → I (n + i) e s → Wp (g p e s) (fun _ e s => Wp (b e s) (LQ (I (n + i + 1)) QS) R) R) → (∀ e s, I (n + ps.length) e s → QS .next e s) → Wp (dForL g b ps e s) QS R
  | [], n, e, s, h0, _, h2 => h2 e s (by simpa using h0)
  | p :: ps, n, e, s, h0, h1, h2 => by
    refine wp_bnd (Wp.mono (h1 0 p e s rfl (by simpa using h0)) (fun _ e1 s1 q1 => wp_bnd (Wp.mono q1 (fun f e2 s2 q2 => ?_) fun _ _ _ _ h => h)) fun _ _ _ _ h => h)
    have next : I (n + 1) e2 s2 → Wp (dForL g b ps e2 s2) QS R := fun hi => wp_forL I ps (n + 1) e2 s2 hi (fun i p e s hp hI => by
      have e1 : n + 1 + i = n + (i + 1) := by omega
      rw [e1] at hI ⊢
      exact h1 (i + 1) p e s (by simpa using hp) hI) (fun e s hI => h2 e s (by
      have e1 : n + (p :: ps).length = n + 1 + ps.length := by simp; omega
      rw [e1]
      exact hI))
    cases f with
    | next => exact next q2
    | cont => exact next q2
    | brk => exact q2
    | ret v => exact q2
theorem wp_for {it : Cd (List PV)} {g : PV → Cd Unit} {b : Cd Flw} (h : Wp (it e s) (fun ps e s => ∃ I : Nat → Env → Stt → Prop, I 0 e s ∧ (∀ (i : Nat) (p : PV) (e : Env) (s : Stt), ps[i]? = some p → I i e s → Wp (g p e s) (fun _ e s => Wp (b e s) (LQ (I (i + 1)) QS) R) R) ∧ ∀ e s, I ps.length e s → QS .next e s) R) :
    Wp (dFor it g b e s) QS R :=
  wp_bnd (Wp.mono h (fun ps e1 s1 ⟨I, h0, h1, h2⟩ => wp_forL I ps 0 e1 s1 h0 (fun i p e s hp hI => by
    rw [Nat.zero_add] at hI ⊢
    exact h1 i p e s hp hI) (fun e s hI => h2 e s (by rw [Nat.zero_add] at hI; exact hI))) fun _ _ _ _ h => h)
theorem wp_items {Q : Pq (List PV)} (h : Wp (d e s) (fun p e s => ∃ xs, itemsF p = some xs ∧ Q xs e s) R) : Wp (dItems d e s) Q R := wp_bnd (Wp.mono h (fun p e1 s1 ⟨xs, q, h1⟩ => wp_lift q h1) fun _ _ _ _ h => h)
theorem wp_rng1 {d : Cd (List PV)} {Q : Pq (List PV)} (h : Wp (d e s) (fun ps e s => ∃ xs, rng1 ps = some xs ∧ Q xs e s) R) : Wp (dRng1 d e s) Q R := wp_bnd (Wp.mono h (fun p e1 s1 ⟨xs, q, h1⟩ => wp_lift q h1) fun _ _ _ _ h => h)
theorem wp_rng2 {d : Cd (List PV)} {Q : Pq (List PV)} (h : Wp (d e s) (fun ps e s => ∃ xs, rng2 ps = some xs ∧ Q xs e s) R) : Wp (dRng2 d e s) Q R := wp_bnd (Wp.mono h (fun p e1 s1 ⟨xs, q, h1⟩ => wp_lift q h1) fun _ _ _ _ h => h)
theorem wp_zip {d : Cd (List PV)} {Q : Pq (List PV)} (h : Wp (d e s) (fun ps e s => ∃ xs, zip2 ps = some xs ∧ Q xs e s) R) : Wp (dZip d e s) Q R := wp_bnd (Wp.mono h (fun p e1 s1 ⟨xs, q, h1⟩ => wp_lift q h1) fun _ _ _ _ h => h)
theorem wp_while {c : Cd Bool} {b : Cd Flw} (I : Env → Stt → Prop) (m : Env → Stt → Nat) (h0 : I e s)
    (h1 : ∀ e s, I e s → Wp (c e s) (fun k e1 s1 => (k = true → Wp (b e1 s1) (LQ (fun e2 s2 => I e2 s2 ∧ m e2 s2 < m e s) QS) R) ∧ (k = false → QS .next e1 s1)) R) : Wp (dWhile c b e s) QS R := by
  suffices h : ∀ (n : Nat) (e : Env) (s : Stt), m e s < n → I e s → Wp (iterW c b n e s) QS R by
    have q := h (m e s + 1) e s (Nat.lt_succ_self _) h0
    have hb : iterW c b (m e s + 1) e s ≠ .bad := fun z => by rw [z] at q; exact q
    rw [dWhile_of rfl hb]
    exact q
  intro n
  induction n with
  | zero => intro e s h; exact absurd h (Nat.not_lt_zero _)
  | succ n ih =>
    intro e s hm hI
    refine wp_bnd (Wp.mono (h1 e s hI) (fun k e1 s1 ⟨q1, q2⟩ => ?_) fun _ _ _ _ h => h)
    cases k with
    | false => exact q2 rfl
    | true =>
      rw [if_pos rfl]
      refine wp_bnd (Wp.mono (q1 rfl) (fun f e2 s2 q3 => ?_) fun _ _ _ _ h => h)
      cases f with
      | next => exact ih e2 s2 (Nat.lt_of_lt_of_le q3.2 (Nat.le_of_lt_succ hm)) q3.1
      | cont => exact ih e2 s2 (Nat.lt_of_lt_of_le q3.2 (Nat.le_of_lt_succ hm)) q3.1
      | brk => exact q3
      | ret v => exact q3
theorem fn_run {n k : Nat} {b : Cd Flw} {ps : List PV} {s : Stt} {Q : PV → Stt → Prop} {R : Str → PV → Stt → Prop} (hl : ps.length = k) (h : Wp (b (ps.map Slot.val ++ List.replicate (n - k) Slot.none) s) (FQ Q) (fun c w _ s => R c w s)) : Fn (runD n k b ps s) Q R := by
  unfold runD
  rw [if_pos hl]
  cases q : b (ps.map Slot.val ++ List.replicate (n - k) Slot.none) s with
  | bad => rw [q] at h; exact h
  | raise c w e s => rw [q] at h; exact h
  | ok f e s =>
    rw [q] at h
    cases f <;> exact h
/-! comprehensions -/
theorem wp_compL {own : List Nat} {g : PV → Cd Unit} {t : Cd Bool} {d : Cd PV} {QL : Pq (List PV)} (I : Nat → List PV → Env → Stt → Prop) : ∀ (ps : List PV) (n : Nat) (acc : List PV) (e : Env) (s : Stt), I n acc e s →
    (∀ (i : Nat) (p : PV) (acc : List PV) (e : Env) (s : Stt), ps[i]? = some p → I (n + i) acc e s → Wp (g p e s) (fun _ e s => Wp (t e s) (fun k e s => (k = true → Wp (d e s) (fun w e s => acc.length < sizeLine ∧ I (n + i + 1) (acc ++ [w]) (wipeE e own) s) R) ∧ (k = false → I (n + i + 1) acc (wipeE e own) s)) R) R) →
    (∀ acc e s, I (n + ps.length) acc e s → QL acc e s) → Wp (compL own g t d ps acc e s) QL R
  | [], n, acc, e, s, h0, _, h2 => h2 acc e s (by simpa using h0)
  | p :: ps, n, acc, e, s, h0, h1, h2 => by
    have go : ∀ (acc : List PV) (e : Env) (s : Stt), I (n + 1) acc e s → Wp (compL own g t d ps acc e s) QL R := fun acc e s hi => wp_compL I ps (n + 1) acc e s hi (fun i p acc e s hp hI => by
      have e1 : n + 1 + i = n + (i + 1) := by omega
      rw [e1] at hI ⊢
      exact h1 (i + 1) p acc e s (by simpa using hp) hI) (fun acc e s hI => h2 acc e s (by
      have e1 : n + (p :: ps).length = n + 1 + ps.length := by simp; omega
      rw [e1]
      exact hI))
    refine wp_bnd (Wp.mono (h1 0 p acc e s rfl (by simpa using h0)) (fun _ e1 s1 q1 => wp_bnd (Wp.mono q1 (fun k e2 s2 ⟨q2, q3⟩ => ?_) fun _ _ _ _ h => h)) fun _ _ _ _ h => h)
    cases k with
    | false =>
      rw [if_neg Bool.false_ne_true]
      exact go acc (wipeE e2 own) s2 (q3 rfl)
    | true =>
      rw [if_pos rfl]
      refine wp_bnd (Wp.mono (q2 rfl) (fun w e3 s3 ⟨hl, q4⟩ => ?_) fun _ _ _ _ h => h)
      rw [if_pos hl]
      exact go (acc ++ [w]) (wipeE e3 own) s3 q4
theorem wp_comp {items : Cd (List PV)} {own : List Nat} {g : PV → Cd Unit} {t : Cd Bool} {d : Cd PV} {QL : Pq (List PV)}
    (h : Wp (items e s) (fun ps e1 s => ∃ I : Nat → List PV → Env → Stt → Prop, I 0 [] (wipeE e1 own) s ∧
      (∀ (i : Nat) (p : PV) (acc : List PV) (e : Env) (s : Stt), ps[i]? = some p → I i acc e s → Wp (g p e s) (fun _ e s => Wp (t e s) (fun k e s => (k = true → Wp (d e s) (fun w e s => acc.length < sizeLine ∧ I (i + 1) (acc ++ [w]) (wipeE e own) s) (fun _ _ _ _ => False)) ∧ (k = false → I (i + 1) acc (wipeE e own) s)) (fun _ _ _ _ => False)) (fun _ _ _ _ => False)) ∧
      ∀ acc e2 s, I ps.length acc e2 s → QL acc (restE e1 e2 own) s) R) : Wp (dComp items own g t d e s) QL R := by
  refine wp_bnd (Wp.mono h (fun ps e1 s1 ⟨I, h0, h1, h2⟩ => ?_) fun _ _ _ _ h => h)
  have q := wp_compL (R := fun _ _ _ _ => False) (QL := fun acc e2 s => QL acc (restE e1 e2 own) s) (own := own) (g := g) (t := t) (d := d) I ps 0 [] (wipeE e1 own) s1 h0 (fun i p acc e s hp hI => by
    rw [Nat.zero_add] at hI ⊢
    exact h1 i p acc e s hp hI) (fun acc e s hI => h2 acc e s (by rw [Nat.zero_add] at hI; exact hI))
  show Wp (match compL own g t d ps [] (wipeE e1 own) s1 with | .ok xs e2 s2 => Out.ok xs (restE e1 e2 own) s2 | _ => .bad) QL R
  cases r : compL own g t d ps [] (wipeE e1 own) s1 with
  | ok xs e2 s2 => rw [r] at q; exact q
  | raise c w e2 s2 => rw [r] at q; exact q.elim
  | bad => rw [r] at q; exact q.elim
end
end FS
set_option Elab.async false
set_option linter.all false
set_option maxRecDepth 100000
/-! FsAuto: running a denotation, step by step. -/
namespace FS
open PySem L2
section
variable {e : Env} {s : Stt} {Q : PV → Prop} {a b : Int}
theorem x_add (h : Q (.int (a + b))) : ∃ w, pAdd s (.int a) (.int b) = some w ∧ Q w := ⟨_, rfl, h⟩
theorem x_sub (h : Q (.int (a - b))) : ∃ w, pSub s (.int a) (.int b) = some w ∧ Q w := ⟨_, rfl, h⟩
theorem x_lt (h : Q (.bl (decide (a < b)))) : ∃ w, pLt s (.int a) (.int b) = some w ∧ Q w := ⟨_, rfl, h⟩
theorem x_le (h : Q (.bl (decide (a ≤ b)))) : ∃ w, pLe s (.int a) (.int b) = some w ∧ Q w := ⟨_, rfl, h⟩
theorem x_gt (h : Q (.bl (decide (b < a)))) : ∃ w, pGt s (.int a) (.int b) = some w ∧ Q w := ⟨_, rfl, h⟩
theorem x_ge (h : Q (.bl (decide (b ≤ a)))) : ∃ w, pGe s (.int a) (.int b) = some w ∧ Q w := ⟨_, rfl, h⟩
theorem pMul_int (hc : okMul a b = true) : pMul s (.int a) (.int b) = some (.int (a * b)) := by
  show (if okMul a b = true then some (PV.int (a * b)) else none).or _ = _
  rw [if_pos hc]
  rfl
theorem x_mul (hc : okMul a b = true) (h : Q (.int (a * b))) : ∃ w, pMul s (.int a) (.int b) = some w ∧ Q w := ⟨_, pMul_int hc, h⟩
theorem okMul_l (h : -18446744073709551616 < a ∧ a < 18446744073709551616) : okMul a b = true := by
  unfold okMul
  simp [h.1, h.2]
theorem okMul_r (h : -18446744073709551616 < b ∧ b < 18446744073709551616) : okMul a b = true := by
  unfold okMul
  simp [h.1, h.2]
theorem x_div (h0 : 0 < b) (h1 : b < 1000000000000000000000) (h : Q (.int (a / b))) : ∃ w, pDiv s (.int a) (.int b) = some w ∧ Q w := by
  refine ⟨_, ?_, h⟩
  show (if okDiv b = true then _ else _) = _
  rw [if_pos]
  unfold okDiv
  simp [h0, h1]
theorem x_mod (h0 : 0 < b) (h : Q (.int (a % b))) : ∃ w, pMod s (.int a) (.int b) = some w ∧ Q w := by
  refine ⟨_, ?_, h⟩
  show (if decide (0 < b) = true then _ else _) = _
  rw [if_pos (decide_eq_true h0)]
theorem x_pow (hc : okPow a b = true) (h : Q (.int (a ^ b.toNat))) : ∃ w, pPow s (.int a) (.int b) = some w ∧ Q w := by
  refine ⟨_, ?_, h⟩
  show (if okPow a b = true then _ else _) = _
  rw [if_pos hc]
theorem eqv_int : eqv (.int a) (.int b) = decide (a = b) := by
  unfold eqv PV.toD PyData.eqv
  exact Bool.eq_iff_iff.mpr (by simp)
theorem x_eq (h : Q (.bl (decide (a = b)))) : ∃ w, pEq s (.int a) (.int b) = some w ∧ Q w := ⟨_, rfl, by
  show Q (.bl (eqv (.int a) (.int b)))
  rw [eqv_int]
  exact h⟩
theorem x_ne (h : Q (.bl (!decide (a = b)))) : ∃ w, pNe s (.int a) (.int b) = some w ∧ Q w := ⟨_, rfl, by
  show Q (.bl (!eqv (.int a) (.int b)))
  rw [eqv_int]
  exact h⟩
theorem x_chain {k : Bool} {o : Option PV} {A : Bool → Prop} (hf : o = some (.bl k)) (h : A k) : ∃ k, o = some (.bl k) ∧ A k := ⟨k, hf, h⟩
theorem x_neg (h : Q (.int (-a))) : ∃ w, pNeg (.int a) = some w ∧ Q w := ⟨_, rfl, h⟩
theorem x_bl {k : Bool} {Q : Bool → Prop} (h : Q k) : ∃ b, asB (.bl k) = some b ∧ Q b := ⟨_, rfl, h⟩
theorem x_truB {k : Bool} {Q : Bool → Prop} (h : Q k) : ∃ b, tru s (.bl k) = some b ∧ Q b := ⟨_, rfl, h⟩
end
theorem wp_sq {K : Env → Stt → Prop} {Q : Pq Flw} {e : Env} {s : Stt} (h : K e s) : SQ K Q .next e s := h
theorem wp_sqr {K : Env → Stt → Prop} {Q : Pq Flw} {p : PV} {e : Env} {s : Stt} (h : Q (.ret p) e s) : SQ K Q (.ret p) e s := h
theorem wp_lq {I : Env → Stt → Prop} {Q : Pq Flw} {e : Env} {s : Stt} (h : I e s) : LQ I Q .next e s := h
theorem wp_lqr {I : Env → Stt → Prop} {Q : Pq Flw} {p : PV} {e : Env} {s : Stt} (h : Q (.ret p) e s) : LQ I Q (.ret p) e s := h
theorem wp_fqn {Q : PV → Stt → Prop} {e : Env} {s : Stt} (h : Q .non s) : FQ Q .next e s := h
theorem wp_fqr {Q : PV → Stt → Prop} {p : PV} {e : Env} {s : Stt} (h : Q p s) : FQ Q (.ret p) e s := h
theorem x_spl {k : Bool} {A B : Prop} (h1 : k = true → A) (h2 : k = false → B) : (k = true → A) ∧ (k = false → B) := ⟨h1, h2⟩
theorem x_ix {s : Stt} {p q w : PV} {Q : PV → Prop} (hf : pIx s p q = some w) (h : Q w) : ∃ w, pIx s p q = some w ∧ Q w := ⟨w, hf, h⟩
theorem x_len {s : Stt} {p : List PV} {w : PV} {Q : PV → Prop} (hf : fLen s p = some w) (h : Q w) : ∃ w, fLen s p = some w ∧ Q w := ⟨w, hf, h⟩
theorem x_int {s : Stt} {p : List PV} {w : PV} {Q : PV → Prop} (hf : fInt s p = some w) (h : Q w) : ∃ w, fInt s p = some w ∧ Q w := ⟨w, hf, h⟩
theorem x_isi {s : Stt} {p : List PV} {w : PV} {Q : PV → Prop} (hf : fIsi s p = some w) (h : Q w) : ∃ w, fIsi s p = some w ∧ Q w := ⟨w, hf, h⟩
theorem x_pcut {s : Stt} {p w : PV} {a b : Option Int} {Q : PV → Prop} (hf : pCut s p a b = some w) (h : Q w) : ∃ w, pCut s p a b = some w ∧ Q w := ⟨w, hf, h⟩
theorem x_itm {s : Stt} {p : PV} {w : List PV} {Q : List PV → Prop} (hf : itemsOf s p = some w) (h : Q w) : ∃ w, itemsOf s p = some w ∧ Q w := ⟨w, hf, h⟩
theorem x_itF {p : PV} {w : List PV} {Q : List PV → Prop} (hf : itemsF p = some w) (h : Q w) : ∃ w, itemsF p = some w ∧ Q w := ⟨w, hf, h⟩
theorem x_low {n : Nat} {A : Prop} (hf : Nat.ble n sizeLine = true) (h : A) : n ≤ sizeLine ∧ A := ⟨Nat.le_of_ble_eq_true hf, h⟩
theorem x_num {n m : Nat} {A : Prop} (hf : n = m) (h : A) : n = m ∧ A := ⟨hf, h⟩
theorem x_mR {p : PV} {n : Nat} {ys : List PV} {s : Stt} {A : Nat → List PV → Prop} (h1 : p = .ref n) (h2 : s[n]? = some (.lst ys)) (h : A n ys) : ∃ n ys, p = .ref n ∧ s[n]? = some (.lst ys) ∧ A n ys := ⟨n, ys, h1, h2, h⟩
theorem x_mf {n : Nat} {s : Stt} {mf : List PV → List PV → Option (PV × List PV)} {ps xs xs' : List PV} {w : PV} {A : List PV → PV → List PV → Prop} (h1 : s[n]? = some (.lst xs)) (h2 : mf xs ps = some (w, xs')) (h : A xs w xs') : ∃ xs w xs', s[n]? = some (.lst xs) ∧ mf xs ps = some (w, xs') ∧ A xs w xs' := ⟨xs, w, xs', h1, h2, h⟩
theorem x_mfO {n : Nat} {e : Env} {mf : List PV → List PV → Option (PV × List PV)} {ps xs xs' : List PV} {w : PV} {A : List PV → PV → List PV → Prop} (h1 : e[n]? = some (.own xs)) (h2 : mf xs ps = some (w, xs')) (h : A xs w xs') : ∃ xs w xs', e[n]? = some (.own xs) ∧ mf xs ps = some (w, xs') ∧ A xs w xs' := ⟨xs, w, xs', h1, h2, h⟩
theorem ixN_zero {n : Nat} (h : 0 < n) : ixN n 0 = some 0 := by
  unfold ixN
  rw [if_pos (by omega), if_pos (by omega)]
  rfl
theorem ixN_nat {n i : Nat} (h : i < n) : ixN n (i : Int) = some i := by
  unfold ixN
  rw [if_pos (by omega), if_pos (by omega)]
  simp
theorem atI_nat {α : Type} {xs : List α} {i : Nat} {x : α} (h : xs[i]? = some x) : atI xs (i : Int) = some x := by
  unfold atI
  rw [ixN_nat (by
    by_cases q : i < xs.length
    · exact q
    · rw [List.getElem?_eq_none (by omega)] at h
      cases h)]
  exact h
theorem atI_zero {α : Type} {x : α} {xs : List α} : atI (x :: xs) 0 = some x := atI_nat (i := 0) rfl
theorem atI_of {α : Type} {xs : List α} {i : Int} (h0 : 0 ≤ i) (h1 : i < xs.length) : ∃ x, x ∈ xs ∧ atI xs i = some x := by
  have e : ((i.toNat : Nat) : Int) = i := Int.toNat_of_nonneg h0
  have hl : i.toNat < xs.length := by omega
  refine ⟨xs[i.toNat], List.getElem_mem hl, ?_⟩
  have q := atI_nat (List.getElem?_eq_getElem hl)
  rw [e] at q
  exact q
theorem pop0 {x : PV} {xs : List PV} : mPopAt (x :: xs) [.int 0] = some (x, xs) := by
  unfold mPopAt
  simp only []
  rw [if_pos (by decide), ixN_zero (by simp)]
  rfl
theorem pEq_v {s : Stt} {p q : PV} {b : Bool} (hp : okd 60 (res s p) = true) (hq : okd 60 (res s q) = true) (sp : seen s p = true) (sq : seen s q = true) (e : eqv (res s p) (res s q) = b) : pEq s p q = some (.bl b) := by
  unfold pEq
  rw [hp, hq, sp, sq, e]
  rfl
theorem pNe_v {s : Stt} {p q : PV} {b : Bool} (hp : okd 60 (res s p) = true) (hq : okd 60 (res s q) = true) (sp : seen s p = true) (sq : seen s q = true) (e : eqv (res s p) (res s q) = b) : pNe s p q = some (.bl (!b)) := by
  unfold pNe
  rw [hp, hq, sp, sq, e]
  rfl
theorem x_setR {p k : PV} {n : Nat} {xs : List PV} {j : Int} {m : Nat} {s : Stt} {A : Nat → List PV → Nat → Prop} (h1 : p = .ref n) (h2 : k = .int j) (h3 : s[n]? = some (.lst xs)) (h4 : ixN xs.length j = some m) (h : A n xs m) :
    ∃ n xs j m, p = .ref n ∧ k = .int j ∧ s[n]? = some (.lst xs) ∧ ixN xs.length j = some m ∧ A n xs m := ⟨n, xs, j, m, h1, h2, h3, h4, h⟩
theorem x_part {p : PV} {i : Int} {Q : Int → Prop} (h1 : p = .int i) (h : Q i) : ∃ i, p = .int i ∧ Q i := ⟨i, h1, h⟩
theorem x_par {ps : List PV} {p q : PV} {A : PV → PV → Prop} (h1 : ps = [p, q]) (h : A p q) : ∃ p q, ps = [p, q] ∧ A p q := ⟨p, q, h1, h⟩
theorem x_rng1 {j : Int} {Q : List PV → Prop} (h0 : -1073741824 < j) (h1 : j < 1073741824) (h : Q ((List.range j.toNat).map fun (i : Nat) => PV.int i)) : ∃ xs, rng1 [.int j] = some xs ∧ Q xs := by
  refine ⟨_, ?_, h⟩
  show (if okR j = true then _ else _) = _
  rw [if_pos]
  unfold okR
  simp [h0, h1]
theorem rng_get (n : Nat) (f : Nat → PV) (i : Nat) (p : PV) : ((List.range n).map f)[i]? = some p → i < n ∧ p = f i := fun h => by
  rw [List.getElem?_map] at h
  by_cases hi : i < n
  · rw [List.getElem?_range hi] at h
    exact ⟨hi, (Option.some.inj h).symm⟩
  · rw [List.getElem?_eq_none (by simpa using hi)] at h
    cases h
/-- the script's ints as values -/
theorem toDs_ints (ns : List Int) : (ns.map PV.int).all (okd 59) = true := by
  rw [List.all_map]
  exact List.all_eq_true.mpr fun _ _ => rfl
theorem okd_ints (ns : List Int) : okd 60 (.lst (ns.map PV.int)) = true := toDs_ints ns
theorem eqv_nil (ns : List Int) : eqv (.lst (ns.map PV.int)) (.lst []) = ns.isEmpty := by
  cases ns with
  | nil => rfl
  | cons n ns => rfl
end FS
set_option Elab.async false
set_option linter.all false
set_option maxRecDepth 100000
/-! FsLam: lambdas without parameters handed to a def; defs that make them. -/
namespace FS
open PySem PySem.Spec L2
open LamX (TabS Tabs ExtN CodeO TabB GivesTo LamS lamCx lamEnv pe_lamcall tLam)
theorem Ent.mon {K : PySem.W.Frag} {G G' : Wd} {S : Stt} (e : Ent G G') (su : Sure G) (rs : RepS K G S) : Mon G G' :=
  ⟨e.pre, fun a h => ⟨e.fz a h, by
    obtain ⟨o, q, nt⟩ := su a h
    rw [q]
    exact e.keep a o q nt (fun hm => rs.nf a hm h)⟩⟩
/-! ### defs that want the tables -/
def spDT (K : PySem.W.Frag) (mg : Str → Option Value) (T : List (Addr × Str)) (n : Nat) (den : List PV → Stt → Res) : Sp := fun vs H Q E =>
  ∃ G ps S, G.H = H ∧ (G.T = T ∧ Tabs T G.H) ∧ RepL K G ps vs ∧ RepS K G S ∧ Sure G ∧ vs.length = n ∧ PostD K mg G Q E (den ps S)
section
variable {P : Program} {w : World} {K : PySem.W.Frag} {mg : Str → Option Value} {base : Heap} {T : List (Addr × Str)}
theorem def_okT {x qual : Str} {st : Stmt} {f c : Addr} {oc kV doc pm ct : Value} {od an : Option Addr} {osl : Array (Option Value)} {N ps : List Str} {k : Nat} {d : Cd Flw}
    (l : K.lookup f = some ⟨oc, od, .func (PySem.W.fnOf x qual (defArgs st) (defBody st) (defScope st) .none kV doc pm an (.ref c) ct), osl⟩) (hc : PySem.W.codeIn K (.ref c) qual = true) (S : FnScope N ps (defScope st))
    (hbody : ∀ (A : Around) (outer : List PySem.Env) (s : Shared) (H : Hp) (E : XK) (G : Wd), (G.T = T ∧ Tabs T G.H) → Room k (A.deeper (PyProof.Rows.envOfC qual (defScope st) s.heap.objs.size f (.ref c))) →
      MSs (cxOf (L2.CX P w) P w K mg base N qual (defScope st) f (.ref c) A outer s H E) (zOf K mg G E) (defBody st) d) :
    FnOk P w K mg base (L2.CX P w) (k + 1) f (PySem.W.fnOf x qual (defArgs st) (defBody st) (defScope st) .none kV doc pm an (.ref c) ct) ps (spDT K mg T ps.length (runD N.length ps.length d)) := by
  refine fn_of l hc S (fun vs H Q E h => ?_) fun A outer s H vs Q E hr h => ?_
  · obtain ⟨_, _, _, _, _, _, _, _, e, _⟩ := h
    exact e
  · obtain ⟨G, qs, S', e, hT, r, rs, su, hl, hp⟩ := h
    subst e
    refine ⟨_, hbody A outer s _ E G hT hr, G, qs.map Slot.val ++ List.replicate (N.length - qs.length) Slot.none, S', rfl, start_rep r rs su, ?_⟩
    have hq : qs.length = ps.length := by rw [r.length, hl]
    unfold runD at hp
    rw [if_pos hq, ← hq] at hp
    cases e : d (qs.map Slot.val ++ List.replicate (N.length - qs.length) Slot.none) S' with
    | bad => rw [e] at hp; exact hp.elim
    | raise c w' e1 s1 =>
      rw [e] at hp
      exact fun σ' G' cls dd v m A1 h1 h0 h2 h3 => hp cls dd v G' A1.ent m A1.st A1.sure h1 h0 h2 h3
    | ok f e1 s1 =>
      rw [e] at hp
      cases f with
      | next => exact fun σ' G' m A1 => hp .non G' A1.ent m A1.st A1.sure .non
      | ret p => exact fun v σ' G' m A1 r1 => hp v G' A1.ent m A1.st A1.sure r1
      | brk => exact hp.elim
      | cont => exact hp.elim
structure DfT (P : Program) (w : World) (K : PySem.W.Frag) (mg : Str → Option Value) (base : Heap) (T : List (Addr × Str)) (k : Nat) (x : Str) (n : Nat) (den : List PV → Stt → Res) : Prop where
  ex : ∃ (f : Addr) (fd : FuncData) (ps : List Str), FnOk P w K mg base (L2.CX P w) k f fd ps (spDT K mg T n den) ∧ mg x = some (.ref f) ∧ PySem.W.keepIn K (.ref f) = true ∧ Binds K fd ps []
end
section
variable {X : Cx} {z : Zx} {pos p : Pos} {T : List (Addr × Str)}
theorem me_callT {k j n : Nat} {x : Str} {den : List PV → Stt → Res} {e : Expr} {es : List Expr} {da : Cd (List PV)} (D : DfT X.prog X.w X.K X.mg X.base T k x n den) (hT : z.G0.T = T ∧ Tabs T z.G0.H) (hr : Room j X.A) (tk : Takes X z.W) (ha : MA X z (e :: es) da) (hkj : k ≤ j := by decide) (hK : z.K = X.K := by rfl) (hmg : z.mg = X.mg := by rfl) (hg : Gl X x := by rfl)
    (hdb : (x == ("__debug__" : Str)) = false := by decide) (he : starEach (e :: es) X.env = (false, eval e X.env) :: starEach es X.env := by rfl) (hpl : (backTo pos (starEach es X.env)).any (·.1) = false := by rfl) :
    ME X z (.Call (.Name x p) (e :: es) [] pos) (dCall n den da) := by
  obtain ⟨f, fd, ps, F, hm, hk, hb⟩ := D.ex
  refine (pe_callSD F (hr.mono hkj) hg hm hk hb .nil (passAt tk) ha hdb he hpl).imp fun σ H Q ⟨G, env, S, e, A, P⟩ => ?_
  subst e
  refine toA lwE A P fun qs env1 S1 vs G1 m1 A1 r1 P1 => ?_
  by_cases hl : qs.length = n
  · rw [if_pos hl] at P1
    rw [List.append_nil]
    rw [← hK, ← hmg]
    have hT1 : G1.T = T ∧ Tabs T G1.H := by
      refine ⟨A1.ent.T.trans hT.1, ?_⟩
      have q := A1.ent.tb (by rw [hT.1]; exact hT.2)
      rw [hT.1] at q
      exact q
    refine ⟨G1, qs, S1, rfl, hT1, r1, A1.st, A1.sure, by rw [← r1.length]; exact hl, ?_⟩
    cases e : den qs S1 with
    | bad => simp only [e] at P1; exact P1.elim
    | ok p S2 =>
      simp only [e] at P1
      exact fun v G' en m s su r => P1 v G' m (A1.call en m s su) r
    | raise c w S2 =>
      simp only [e] at P1
      exact fun cls d v G' en m s su h1 h0 h2 r => P1 σ G' cls d v m (A1.call en m s su) h1 (A1.ent.there d h0) h2 r
  · rw [if_neg hl] at P1
    exact P1.elim
end
/-! ### what is handed over -/
def hideS : Slot → Slot
  | .own _ => .none
  | x => x
def hide (e : Env) : Env := e.map hideS
def dThunk (d : Cd PV) (e : Env) : Stt → Res := fun s => match d (hide e) s with
  | .ok p _ s' => .ok p s'
  | .raise c w _ s' => .raise c w s'
  | .bad => .bad
open Classical in
noncomputable def dLam (den : Addr → (Stt → Res) → Stt → Res) (d : Cd PV) : Cd PV := fun e s =>
  if ∀ f, den f (dThunk d e) s = den 0 (dThunk d e) s then (match den 0 (dThunk d e) s with
    | .ok p s' => .ok p e s'
    | _ => .bad) else .bad
open Classical in
/-- the call of what was handed over; an error forgets the frame -/
noncomputable def dAct (n i : Nat) (f : Addr) (act : Stt → Res) : Cd PV := fun e s =>
  if e.length = n ∧ e[i]? = some (.val (.raw (.ref f))) then (match act s with
    | .ok p s' => .ok p e s'
    | .raise c w s' => .raise c w (List.replicate n .none) s'
    | .bad => .bad) else .bad
def ActOk (K : PySem.W.Frag) (mg : Str → Option Value) (G : Wd) (tl : XK → Hp → VK → Prop) (act : Stt → Res) : Prop :=
  ∀ (G' : Wd) (S' : Stt) (Q' : VK) (E' : XK), Ent G G' → Mon G G' → RepS K G' S' → Sure G' → PostD K mg G' Q' E' (act S') → tl E' G'.H Q'
def TTof (K : PySem.W.Frag) (mg : Str → Option Value) (den : Addr → (Stt → Res) → Stt → Res) : (XK → Hp → VK → Prop) → Hp → VK → Prop := fun tl H Q =>
  ∃ G S act, G.H = H ∧ RepS K G S ∧ Sure G ∧ ActOk K mg G tl act ∧ ∀ f, PostD K mg G Q C8.E0 (den f act S)
theorem nt_code {c : Addr} {q : Str} : NT (CodeO c q) := fun _ e => by unfold CodeO at e; cases e
theorem at_none {K : PySem.W.Frag} {G0 G : Wd} {S : Stt} {n : Nat} {σ : St} (e : Ent G0 G) (s : RepS K G S) (su : Sure G) (hl : σ.length = n) : At K G0 G S (List.replicate n .none) σ := by
  have no : ∀ (i : Nat) (x : Slot), (List.replicate n Slot.none)[i]? = some x → x = .none := fun i x h => List.eq_of_mem_replicate (List.mem_of_getElem? h)
  refine ⟨s, ⟨by simp [hl], fun i p h => ?_, fun i xs h => ?_, fun i a d w h => ?_, fun i j a h => ?_⟩, e, fun i a h => ?_, su⟩
  · cases no i _ h
  · cases no i _ h
  · cases no i _ h
  · cases no i _ h.choose_spec
  · cases no i _ h.choose_spec
theorem me_act {X0 : Cx} {G0 : Wd} {S0 : Stt} {K : PySem.W.Frag} {mg : Str → Option Value} {a q : Str} {f c' : Addr} {tl : XK → Hp → VK → Prop} {act : Stt → Res} {n : Nat}
    (rule : ∀ (W : WX) (pn : List (Addr × Obj)) (xe : Value → Shared → Prop) (E : XK) (p1 p2 : Pos), Takes (X0.tr pn xe) W → (∀ (cls : Value) (d : Option Addr) (σ' : St) (H' : Hp), E cls d H' → W cls d σ' H') →
      PE (X0.tr pn xe) (.Call (.Name a p1) [] [] p2) fun σZ HZ Q => σZ[0]? = some (some (V.ref f)) ∧ HZ c' = some (CodeO c' q) ∧ tl E HZ Q)
    (hc : G0.H c' = some (CodeO c' q)) (ok : ActOk K mg G0 tl act) (rs : RepS K G0 S0) (su : Sure G0) (hn : X0.N.length = n) {W : WX} {pn : List (Addr × Obj)} {xe : Value → Shared → Prop} {p1 p2 : Pos} (tk : Takes (X0.tr pn xe) W) :
    ME (X0.tr pn xe) ⟨K, mg, G0, W⟩ (.Call (.Name a p1) [] [] p2) (dAct n 0 f act) := by
  have tk' : Takes (X0.tr pn xe) (fun cls d σ' H' => σ'.length = n → W cls d σ' H') := fun u s' ⟨a, B, sI, pins, σ, H, cls, d, e1, I, r1, r2, r3, r4, r5, r6, w⟩ =>
    tk u s' ⟨a, B, sI, pins, σ, H, cls, d, e1, I, r1, r2, r3, r4, r5, r6, w (I.len.trans hn)⟩
  refine PE.imp (rule _ pn xe (fun cls d H' => ∀ σ' : St, σ'.length = n → W cls d σ' H') p1 p2 tk' (fun cls d σ' H' h hl => h σ' hl)) fun σ H Q ⟨G, env, S, e, A, P⟩ => ?_
  subst e
  unfold dAct at P
  by_cases hcond : env.length = n ∧ env[0]? = some (.val (.raw (.ref f)))
  · rw [if_pos hcond] at P
    obtain ⟨v, e1, r⟩ := A.en.val 0 _ hcond.2
    cases r
    have hcm : c' ∉ G0.m := fun hm => by
      obtain ⟨i, hi⟩ := List.getElem?_of_mem hm
      have hl : i < S0.length := by rw [← rs.len]; exact (List.getElem?_eq_some_iff.mp hi).1
      have q := rs.ob i c' S0[i] hi (by simp [hl])
      cases e : S0[i] with
      | lst xs =>
        rw [e] at q
        obtain ⟨vs, q, _⟩ := q
        rw [hc] at q
        unfold CodeO at q
        cases q
    refine ⟨e1, A.ent.keep c' _ hc nt_code hcm, ok G S Q _ A.ent (A.ent.mon su rs) A.st A.sure ?_⟩
    cases e : act S with
    | bad => rw [e] at P; exact P.elim
    | ok p s' =>
      rw [e] at P
      exact fun v G' en m s su r => P v G' m (A.call en m s su) r
    | raise c w s' =>
      rw [e] at P
      exact fun cls d v G' en m s su h1 h0 h2 r σ' hl => P σ' G' cls d v m (at_none (A.ent.trans en) s su hl) h1 (A.ent.there d h0) h2 r
  · rw [if_neg hcond] at P
    exact P.elim
theorem gives_of {X : Cx} {Ng : List Str} {x a q : Str} {sg : Scope} {g : Addr} {cdg : Value} {bg : List Stmt} {den : Addr → (Stt → Res) → Stt → Res} {body : Addr → (Stt → Res) → Cd Flw}
    (hden : ∀ f act s, den f act s = fin (body f act (.val (.raw (.ref f)) :: List.replicate (Ng.length - 1) .none) s))
    (hb : ∀ (f : Addr) (s : Shared) (H : Hp) (G : Wd) (act : Stt → Res), (∀ (W : WX) (pn : List (Addr × Obj)) (xe : Value → Shared → Prop) (p1 p2 : Pos), Takes ((cxOf C8.CX0 X.prog X.w X.K X.mg X.base Ng x sg g cdg X.A X.stack s H C8.E0).tr pn xe) W →
        ME ((cxOf C8.CX0 X.prog X.w X.K X.mg X.base Ng x sg g cdg X.A X.stack s H C8.E0).tr pn xe) ⟨X.K, X.mg, G, W⟩ (.Call (.Name a p1) [] [] p2) (dAct Ng.length 0 f act)) →
      MSs (cxOf C8.CX0 X.prog X.w X.K X.mg X.base Ng x sg g cdg X.A X.stack s H C8.E0).nox ⟨X.K, X.mg, G, fun _ _ _ _ => False⟩ bg (body f act)) :
    GivesTo X Ng x sg g cdg bg a q (TTof X.K X.mg den) := by
  intro f c' s H Q tl rule hc ⟨G, S, act, e, rs, su, ok, hp⟩
  subst e
  refine ⟨_, hb f s G.H G act (fun W pn xe p1 p2 tk => me_act rule hc ok rs su rfl tk), G, _, S, rfl, start_rep (N := Ng) (ps := [.raw (.ref f)]) (.cons (.raw _) .nil) rs su, ?_⟩
  have hp := hp f
  rw [hden] at hp
  show PostS _ G _ (body f act (.val (.raw (.ref f)) :: List.replicate (Ng.length - 1) .none) S)
  cases e : body f act (.val (.raw (.ref f)) :: List.replicate (Ng.length - 1) .none) S with
  | bad => rw [e] at hp; exact hp.elim
  | raise c w e1 s1 =>
    rw [e] at hp
    exact fun σ' G' cls dd v m A1 h1 h0 h2 h3 => hp cls dd v G' A1.ent m A1.st A1.sure h1 h0 h2 h3
  | ok fl e1 s1 =>
    rw [e] at hp
    cases fl with
    | next => exact fun σ' G' m A1 => hp .non G' A1.ent m A1.st A1.sure .non
    | ret p => exact fun v σ' G' m A1 r1 => hp v G' A1.ent m A1.st A1.sure r1
    | brk => exact hp.elim
    | cont => exact hp.elim
/-- a def that is handed a lambda -/
structure LDf (P : Program) (w : World) (K : PySem.W.Frag) (mg : Str → Option Value) (base : Heap) (x : Str) (den : Addr → (Stt → Res) → Stt → Res) : Prop where
  ex : ∃ (g : Addr) (pg : Arguments) (bg : List Stmt) (sg : Scope) (dV kV doc pm cdv ct oc : Value) (an od : Option Addr) (osl : Array (Option Value)) (Ng : List Str) (a : Str),
    mg x = some (.ref g) ∧ PySem.W.keepIn K (.ref g) = true ∧ K.lookup g = some ⟨oc, od, .func (PySem.W.fnOf x x pg bg sg dV kV doc pm an cdv ct), osl⟩ ∧ PySem.W.codeIn K cdv x = true ∧
    Binds K (PySem.W.fnOf x x pg bg sg dV kV doc pm an cdv ct) [a] [] ∧ FnScope Ng [a] sg ∧ Ng[0]? = some a ∧ Vis sg a ∧ (a == ("__debug__" : Str)) = false ∧ (a == ("__classdict__" : Str)) = false ∧
    ∀ (X : Cx) (q : Str), X.prog = P → X.w = w → X.K = K → X.mg = mg → X.base = base → GivesTo X Ng x sg g cdv bg a q (TTof K mg den)
section
variable {X : Cx} {z : Zx} {pos p lpos : Pos} {T : List (Addr × Str)}
theorem hide_rep {K : PySem.W.Frag} {G G' : Wd} {env : Env} {σ : St} {S' : Stt} (r : RepE K G env σ) (M : Mon G G') (s : RepS K G' S') (su : Sure G') : At K G' G' S' (hide env) σ := by
  have get : ∀ (i : Nat) (x : Slot), (hide env)[i]? = some x → ∃ y, env[i]? = some y ∧ x = hideS y := fun i x h => by
    unfold hide at h
    rw [List.getElem?_map] at h
    cases q : env[i]? with
    | none => rw [q] at h; cases h
    | some y => rw [q] at h; exact ⟨y, rfl, (Option.some.inj h).symm⟩
  have no : ∀ (i : Nat), ¬ IsOwn (hide env) i := fun i ⟨xs, h⟩ => by
    obtain ⟨y, _, e⟩ := get i _ h
    cases y <;> cases e
  refine ⟨s, ⟨by unfold hide; rw [List.length_map]; exact r.len, fun i p h => ?_, fun i xs h => absurd ⟨xs, h⟩ (no i), fun i a d w h => ?_, fun i j a h => absurd h (no i)⟩, .refl _, fun i a h => absurd h (no i), su⟩
  · obtain ⟨y, h1, e⟩ := get i _ h
    cases y with
    | val p' =>
      cases e
      obtain ⟨v, e1, rv⟩ := r.val i _ h1
      exact ⟨v, e1, rv.mon M⟩
    | none => cases e
    | own xs => cases e
    | exc a d w => cases e
  · obtain ⟨y, h1, e⟩ := get i _ h
    cases y with
    | exc a' d' w' =>
      cases e
      obtain ⟨e1, h2, v, e2, h3⟩ := r.exc i _ _ _ h1
      obtain ⟨q1, q2⟩ := M.fz d h2
      exact ⟨e1, q1, v, q2.trans e2, h3.mon M⟩
    | none => cases e
    | own xs => cases e
    | val p => cases e
theorem me_lam {j k : Nat} {x : Str} {den : Addr → (Stt → Res) → Stt → Res} {params : Arguments} {body : Expr} {scope : Scope} {d : Cd PV} {c P : Addr} (D : LDf X.prog X.w X.K X.mg X.base x den) (TB : TabB X.base X.mg c P) (hT : z.G0.T = T ∧ Tabs T z.G0.H) (hm : (P, X.env.qual ++ "<lambda>") ∈ T) (hu : ∀ p ∈ T, p.1 = P → p.2 = X.env.qual ++ "<lambda>")
    (hr : Room j X.A) (L : LamS X.env.scope scope)
    (hbody : ∀ (A : Around) (outer : List PySem.Env) (s : Shared) (H : Hp) (E : XK) (f c' : Addr) (G : Wd), (G.T = T ∧ Tabs T G.H) → Room k (A.deeper (lamEnv X scope s.heap.objs.size f c')) → ME (lamCx X A outer s H E scope f c') (zOf X.K X.mg G E) body d)
    (hkj : k + 2 ≤ j := by decide) (hcode : X.env.code = .ref c := by rfl) (hdef : defaultsOf params X.env = ([], []) := by rfl)
    (hbind : ∀ (q : Str) (cl : List (Str × Addr)) (pm cv ctv : Value), bindArgs (PySem.W.kla_fn "<lambda>" q params body scope cl pm cv ctv) ⟨[], []⟩ = pure [] := by intros; rfl)
    (hK : z.K = X.K := by rfl) (hmg : z.mg = X.mg := by rfl) (hg : Gl X x := by rfl) (hdb : (x == ("__debug__" : Str)) = false := by decide) :
    ME X z (.Call (.Name x p) [.Lambda params body scope lpos] [] pos) (dLam den d) := by
  obtain ⟨g, pg, bg, sg, dV, kV, doc, pm, cdv, ct, oc, an, od, osl, Ng, a, gx, kg, lg, cg, bd, Sg, hNg, hva, ha1, ha2, give⟩ := D.ex
  have hG := give X (X.env.qual ++ "<lambda>") rfl rfl rfl rfl rfl
  refine PE.imp (pe_lamcall (T := T) (k := k) hg gx kg lg cg bd Sg hNg hva hG TB hcode hm hu (hr.mono hkj) L hdef hbind (t := fun E σ H' Q' => ∃ G', G'.H = H' ∧ (G'.T = T ∧ Tabs T G'.H) ∧ RE (zOf X.K X.mg G' E) d σ H' Q') (fun A outer s H E f c' hrm => ⟨fun pins s1 σ H1 Q I ⟨G', e, hTG, h⟩ => (hbody A outer s H E f c' G' hTG hrm).run pins s1 σ H1 Q I h⟩) hdb ha1 ha2) fun σ H Q ⟨G, env, S, e, A, P⟩ => ?_
  subst e
  have hTG : Tabs T G.H := by
    have q := A.ent.tb (by rw [hT.1]; exact hT.2)
    rw [hT.1] at q
    exact q
  refine ⟨hTG, fun H1 ex hT1 => ?_⟩
  -- the world behind the making of the lambda
  have nu : ∀ b, Nu H1 b → Nu G.H b := fun b h => by
    cases e : G.H b with
    | none => exact .inl e
    | some o =>
      by_cases ho : ∃ ps, o = .tbl ps
      · obtain ⟨ps, rfl⟩ := ho
        exact .inr ⟨ps, e⟩
      · exact (h.no (ex b o e (fun ps q => ho ⟨ps, q⟩)) (fun ps q => ho ⟨ps, q⟩)).elim
  have gT : G.T = T := A.ent.T.trans hT.1
  have E1 : Ent G ⟨G.m, G.fz, H1, G.T⟩ := ⟨⟨[], by simp⟩, fun b h => .inl h, fun b h => h, fun b h => .inl h, fun b o h nt _ => ex b o h nt, nu, rfl, fun _ => by rw [gT]; exact hT1⟩
  have M1 : Mon G ⟨G.m, G.fz, H1, G.T⟩ := E1.mon A.sure A.st
  have S1 : RepS z.K ⟨G.m, G.fz, H1, G.T⟩ S := ⟨A.st.len, A.st.nd, A.st.nf, fun i b o h1 h2 => by
    have q := A.st.ob i b o h1 h2
    cases o with
    | lst xs =>
      obtain ⟨vs, q1, q2⟩ := q
      exact ⟨vs, ex b _ q1 nt_lst, q2.mon M1⟩⟩
  have su1 : Sure ⟨G.m, G.fz, H1, G.T⟩ := fun b h => by
    obtain ⟨o, q, nt⟩ := A.sure b h
    exact ⟨o, ex b o q nt, nt⟩
  have A1 := A.call E1 M1 S1 su1
  unfold dLam at P
  by_cases hall : ∀ f, den f (dThunk d env) S = den 0 (dThunk d env) S
  · rw [if_pos hall] at P
    refine ⟨⟨G.m, G.fz, H1, G.T⟩, S, dThunk d env, rfl, by rw [← hK]; exact S1, su1, fun G' S' Q' E' en m s su hp => ?_, fun f => ?_⟩
    · have hTG' : G'.T = T ∧ Tabs T G'.H := ⟨en.T.trans gT, by
        have w := en.tb (by show Tabs G.T H1; rw [gT]; exact hT1)
        have w2 : Tabs G.T G'.H := w
        rw [gT] at w2
        exact w2⟩
      refine ⟨G', rfl, hTG', G', hide env, S', rfl, hide_rep (by rw [← hK]; exact A1.en) m s su, ?_⟩
      unfold dThunk at hp
      cases e : d (hide env) S' with
      | bad => rw [e] at hp; exact hp.elim
      | ok p e2 s2 =>
        rw [e] at hp
        exact fun v G2 m2 A2 r => hp v G2 A2.ent m2 A2.st A2.sure r
      | raise c2 w2 e2 s2 =>
        rw [e] at hp
        exact fun σ' G2 cls dd v m2 A2 h1 h0 h2 r => hp cls dd v G2 A2.ent m2 A2.st A2.sure h1 h0 h2 r
    · rw [hall f]
      cases e : den 0 (dThunk d env) S with
      | bad => rw [e] at P; exact P.elim
      | raise c2 w2 s2 => rw [e] at P; exact P.elim
      | ok p s2 =>
        rw [e] at P
        rw [← hK, ← hmg]
        exact fun v G2 en m s su r => P v G2 (M1.trans m) (A1.call en m s su) r
  · rw [if_neg hall] at P
    exact P.elim
end
/-! ### the end of a law with tables -/
theorem law_atT {l : PySem.W.OpenLaw} {w : World} {K : PySem.W.Frag} {mg : Str → Option Value} {h : Heap} {fa : Addr} {k : Nat} {x : Str} {fd : FuncData} {cs : List (Addr × Addr)} {TT : List (Addr × Str)} {den : List PV → Stt → Res}
    (h1 : ∀ p ∈ cs, h.get? p.2 = some (PySem.W.tabObj #[])) (h2 : ∀ p ∈ cs, K.lookup p.2 = none) (h3 : ∀ p ∈ cs, PySem.W.CodeHd h p.1 p.2) (hb : ∀ (s : Shared) (u : Value), BindsTo s fd ⟨[u], []⟩ [(x, u)])
    (hT : ∀ p ∈ TT, ∃ c, (c, p.1) ∈ cs) (hden : ∀ ns : List Int, ns.length ≤ 63 → ∃ S, den [.scr ns] [] = .ok (.bl true) S)
    (F : ∀ base : Heap, K.In base → base.Ns mainGlobals mg → (∀ p ∈ cs, TabB base mg p.1 p.2) → FnOk l.prog w K mg base (L2.CX l.prog w) k fa fd [x] (spDT K mg TT 1 den)) : LamX.LawAtS l w K (L2.CX l.prog w) k 63 x mg fa h := by
  refine ⟨fd, cs, spDT K mg TT 1 den, h1, h2, h3, hb, fun H a ns hl _ hP hs => ?_, F⟩
  obtain ⟨S, hS⟩ := hden ns hl
  have tabs : Tabs TT H := fun p hp => by
    obtain ⟨c, hc⟩ := hT p hp
    exact TabS.nil (hP (c, p.1) hc)
  have fin : ∀ (fz : Addr → Prop), (∀ b, fz b → ∃ o, H b = some o ∧ NT o) → Rep K ⟨[], fz, H, TT⟩ (.scr ns) (.ref a) → spDT K mg TT 1 den [.ref a] H (fun v _ => v = V.bl true) (fun _ _ _ => False) := fun fz su r => by
    refine ⟨⟨[], fz, H, TT⟩, [.scr ns], [], rfl, ⟨rfl, tabs⟩, .cons r .nil, ⟨rfl, List.nodup_nil, fun b hb => absurd hb List.not_mem_nil, fun i b o h1 h2 => by
      have h3 : ([] : List Addr)[i]? = some b := h1
      simp at h3⟩, su, rfl, ?_⟩
    rw [hS]
    exact fun v G' _ _ _ _ rv => by cases rv; rfl
  rcases hs with hs | hs
  · refine fin (fun b => b = a) (fun b hb => ?_) (.scr (.inl ⟨rfl, .inl hs⟩))
    rw [hb]
    rcases hs with hs | ⟨o, hs⟩
    · exact ⟨_, hs, nt_lst⟩
    · exact ⟨_, hs, nt_frz⟩
  · exact fin (fun _ => False) (fun b hb => hb.elim) (.scr (.inr (.inr hs)))
/-- a code object and its table -/
theorem code_hd {h : Heap} {K : PySem.W.Frag} (X : K.In h) {c Pt : Addr} {od : Option Addr} {vs : Array Value} {sl : Array (Option Value)} {file : Str} {tf tg tt : Tok} {flags i10 : Int} {inF : Bool}
    (l : K.lookup c = some ⟨.type "code", od, .fields vs, sl⟩) (h11 : vs[11]? = some (.ref Pt)) (e11 : vs.getD 11 .none = .ref Pt) (e18 : vs.getD 18 .none = .str file tf) (e7 : vs.getD 7 .none = .int flags tg) (e9 : vs.getD 9 .none = .bool inF) (e10 : vs.getD 10 .none = .int i10 tt) (ne : c ≠ Pt) : PySem.W.CodeHd h c Pt :=
  ⟨_, vs, file, tf, flags, tg, inF, i10, tt, X c _ l, rfl, rfl, h11, e11, e18, e7, e9, e10, ne⟩
end FS
set_option Elab.async false
set_option linter.all false
set_option maxRecDepth 100000
/-! FsPar3: a, b, c = x, y, z. -/
namespace FS
open PySem PySem.Spec L2
section
variable {X : Cx} {z : Zx} {pos p : Pos}
def dPar3 (i j l : Nat) (d : Cd (List PV)) : Cd Flw := bnd d fun ps => match ps with
  | [p, q, r] => fun e s => .ok .next (((e.set i (.val p)).set j (.val q)).set l (.val r)) s
  | _ => fun _ _ => .bad
end
end FS
set_option Elab.async false
set_option linter.all false
set_option maxRecDepth 100000
/-! FsRep: tuple * int, any number of times. -/
namespace FS
open PySem PySem.Spec L2 PySem.W
theorem tuple_mul_same (l : Addr) (items : Array Value) (n : Nat) (dd : Option Addr) (sl : Array (Option Value)) (x : Int) (u : Tok) (c0 : (decide (x < -2 ^ 63) || decide (x ≥ 2 ^ 63)) = false) (c1 : (items.isEmpty || x == 1) = true) :
    Meets (Builtin.«tuple.__mul__» { pos := [Value.ref l, Value.int x u] }) fun _ R s =>
      s.heap.get? l = some { cls := Value.type "tuple", dict := dd, data := Data.seq items n, slots := sl } ∧ R (Except.ok (Flow.ret (Value.ref l))) s := by
  refine Meets.of_wp fun prog w A R s h => ?_
  obtain ⟨hl, h⟩ := h
  have d0 : decide ((decide (x < -2 ^ 63) || decide (x ≥ 2 ^ 63)) = true) = false := by rw [c0]; rfl
  have d1 : decide ((items.isEmpty || x == 1) = true) = true := by rw [c1]; rfl
  refine wpAny_ite_false d0 (wpAny_bind (wpAny_bind (wpAny_bind (wpAny_load' hl (wpAny_pure (wpAny_pure (wpAny_ite_true d1 (wpAny_bind ?_))))))))
  refine wpAny_bind (wpAny_typeOf_ref hl (wpAny_pure ?_))
  refine wpAny_ite_true rfl (wpAny_bind (wpAny_rule ?_))
  exact wpAny_pure ⟨_, rfl, h⟩
theorem tuple_mul_none (l : Addr) (items : Array Value) (n : Nat) (dd : Option Addr) (sl : Array (Option Value)) (x : Int) (u : Tok) (c0 : (decide (x < -2 ^ 63) || decide (x ≥ 2 ^ 63)) = false) (c1 : (items.isEmpty || x == 1) = false) (c2 : (decide (x ≤ 0) || items.isEmpty) = true) :
    Meets (Builtin.«tuple.__mul__» { pos := [Value.ref l, Value.int x u] }) fun _ R s =>
      s.heap.get? l = some { cls := Value.type "tuple", dict := dd, data := Data.seq items n, slots := sl } ∧ R (Except.ok (Flow.ret (Value.ref s.heap.objs.size))) { s with heap := s.heap.push { cls := Value.type "tuple", data := Data.seq #[] } } := by
  refine Meets.of_wp fun prog w A R s h => ?_
  obtain ⟨hp, g, d, tk, os⟩ := s
  obtain ⟨hl, h⟩ := h
  have d0 : decide ((decide (x < -2 ^ 63) || decide (x ≥ 2 ^ 63)) = true) = false := by rw [c0]; rfl
  have d1 : decide ((items.isEmpty || x == 1) = true) = false := by rw [c1]; rfl
  have d2 : decide ((decide (x ≤ 0) || items.isEmpty) = true) = true := by rw [c2]; rfl
  refine wpAny_ite_false d0 (wpAny_bind (wpAny_bind (wpAny_bind (wpAny_load' hl (wpAny_pure (wpAny_pure (wpAny_ite_false d1 (wpAny_ite_true d2 (wpAny_bind ?_)))))))))
  unfold Builtin.Tuple.tupleExact newObj
  simp only []
  refine wpAny_bind (wpAny_alloc' ?_)
  refine wpAny_pure ?_
  refine wpAny_pure ?_
  exact ⟨_, rfl, h⟩
/-- a tuple several times: once is the tuple itself -/
def rRepA (K : PySem.W.Frag) : R2 := fun x y H Q => ∃ (l : Addr) (k : Int) (xs : List V), x = .ref l ∧ y = .int k ∧ SqT K H l xs ∧ xs ≠ [] ∧ -1048576 < k ∧ k < 1048576 ∧ xs.length * k.toNat ≤ sizeLine ∧ xs.length ≤ sizeLine ∧
  (k = 1 → Q (.ref l) H) ∧ (k ≠ 1 → ∀ p o, H p = none → o.dict = none → Q (.ref p) (upd H p (.frz o (.tup (List.replicate k.toNat xs).flatten))))
theorem op_repA {X : Cx} : OpR X (binaryOp .Mult) (rRepA X.K) := by
  intro pins s σ H x y v u Q I rx ry ⟨l, k, xs, ex, ey, hT, hne, h1, h2, hz, hz0, qs, qn⟩
  subst ex ey
  obtain rfl : v = Value.ref l := rx
  obtain ⟨t, rfl⟩ := ry
  obtain ⟨its, r, ⟨w, ho, hc, n, hd⟩, hs⟩ := I.tuple hT
  obtain ⟨cls, dd, data, sl⟩ := w
  simp only at hc hd
  subst hc hd
  have hle : its.length = xs.length := r.length.symm
  have hi : its.toArray.isEmpty = false := by
    cases its with
    | nil => exact absurd (List.length_eq_zero_iff.mp hle.symm) hne
    | cons a b => rfl
  have c0 : (decide (k < -2 ^ 63) || decide (k ≥ 2 ^ 63)) = false := by
    rw [decide_eq_false (by omega), decide_eq_false (by omega)]
    rfl
  have hT' : s.TypeIs (.ref l) "tuple" := ⟨_, ho, rfl⟩
  refine wpAny_binaryOp_repeat_ref (by decide) hT' (fun s' => typeIs_int s' k t) noFill_tuple_mul F.fills_int_mul F.slot_int_rmul repeat_tuple F.slot_int_index.lookup ?_
  refine call_meets F.slot_int_rmul (typeIs_int s k t) F.entry_int_rmul (F.args_int_rmul_2 (.int k t) (.ref l)) (int_rmul_tuple k t l its.toArray n dd sl) ⟨ho, rfl, hT', ?_⟩
  by_cases hk : k = 1
  · subst hk
    refine call_meets F.slot_tuple_mul hT' F.entry_tuple_mul (F.args_tuple_mul_2 (.ref l) (.int 1 t)) (tuple_mul_same l its.toArray n dd sl 1 t c0 (by rw [hi]; rfl)) ⟨ho, ?_⟩
    exact ⟨.ref l, H, I, rfl, qs rfl⟩
  · have c1 : (its.toArray.isEmpty || k == 1) = false := by rw [hi, Bool.false_or]; exact beq_eq_false_iff_ne.mpr hk
    have q := fun o ho => qn hk s.heap.objs.size o (I.hok.fresh (Nat.le_refl _)) ho
    by_cases h0 : k ≤ 0
    · have e0 : (List.replicate k.toNat xs).flatten = [] := by
        rw [Int.toNat_of_nonpos h0]
        rfl
      rw [e0] at q
      refine call_meets F.slot_tuple_mul hT' F.entry_tuple_mul (F.args_tuple_mul_2 (.ref l) (.int k t)) (tuple_mul_none l its.toArray n dd sl k t c0 c1 (by rw [decide_eq_true h0]; rfl)) ⟨ho, ?_⟩
      exact ⟨.ref s.heap.objs.size, upd H s.heap.objs.size (.frz _ (.tup [])), I.laid (fun b ob q => Heap.get?_push_of_some _ q) (Nat.le_refl _) (objN (its := []) (Nat.zero_le _) .nil (Heap.get?_push_size _ rfl) rfl ⟨_, rfl⟩), rfl, q _ rfl⟩
    · have c2 : (decide (k ≤ 0) || its.toArray.isEmpty) = false := by rw [hi, decide_eq_false h0]; rfl
      have fl : (List.replicate k.toNat its).flatten.length ≤ sizeLine := by
        rw [PyProof.Rows.lm_len_rep_flat, hle, Nat.mul_comm]
        exact hz
      have kk : ((k.toNat : Nat) : Int) = k := Int.toNat_of_nonneg (by omega)
      have sz : (its.toArray.size : Int) * k = ((xs.length * k.toNat : Nat) : Int) := by
        rw [List.size_toArray, hle]
        push_cast
        rw [kk]
      have hsl : sizeLine = 16777216 := sizeLine_eq
      refine call_meets F.slot_tuple_mul hT' F.entry_tuple_mul (F.args_tuple_mul_2 (.ref l) (.int k t)) (tuple_mulW l its.toArray n dd sl k t c0 c1 c2 (by rw [sz]; omega) (by unfold Builtin.Tuple.tupleTooMany; rw [sz]; exact decide_eq_false (by omega)) (by rw [size_rep, List.size_toArray]; exact fl)) ⟨ho, ?_⟩
      rw [size_rep]
      exact ⟨.ref s.heap.objs.size, upd H s.heap.objs.size (.frz _ (.tup (List.replicate k.toNat xs).flatten)), I.laid (fun b ob q => Heap.get?_push_of_some _ q) (Nat.le_refl _) (objN (by rw [PyProof.Rows.lm_len_rep_flat, Nat.mul_comm]; exact hz) (r.rep k.toNat) (Heap.get?_push_size _ rfl) rfl ⟨_, rfl⟩), rfl, q _ rfl⟩
/-- tuple * int, any number of times -/
def pMulT : Stt → PV → PV → Option PV := fun _ p q => match p, q with
  | .tup xs, .int k => if xs ≠ [] ∧ k < 1048576 ∧ -1048576 < k ∧ xs.length * k.toNat ≤ sizeLine ∧ xs.length ≤ sizeLine then some (.tup (List.replicate k.toNat xs).flatten) else none
  | _, _ => none
section
variable {X : Cx} {z : Zx}
theorem op_pMulT (hK : z.K = X.K := by rfl) : OpD X z (binaryOp .Mult) pMulT := by
  refine ⟨_, op_repA, fun G S p q w x y Q e s su rp rq h => ?_⟩
  rw [← hK]
  cases p with
  | tup xs =>
    cases q with
    | int k =>
      cases rq
      have rp2 := rp
      obtain ⟨a, vs, rfl, q, rr⟩ := rp.sqT
      have e' : (if xs ≠ [] ∧ k < 1048576 ∧ -1048576 < k ∧ xs.length * k.toNat ≤ sizeLine ∧ xs.length ≤ sizeLine then some (PV.tup (List.replicate k.toNat xs).flatten) else none) = some w := e
      by_cases hc : xs ≠ [] ∧ k < 1048576 ∧ -1048576 < k ∧ xs.length * k.toNat ≤ sizeLine ∧ xs.length ≤ sizeLine
      · rw [if_pos hc] at e'
        cases e'
        obtain ⟨h1, h2, h3, h4, h5⟩ := hc
        have hl := rr.length
        refine ⟨a, k, vs, rfl, rfl, q, fun z => ?_, h3, h2, by rw [← hl]; exact h4, by rw [← hl]; exact h5, fun hk => ?_, fun hk p o hn ho => ?_⟩
        · rw [z] at hl
          exact h1 (List.length_eq_zero_iff.mp hl)
        · subst hk
          have e1 : (List.replicate (1 : Int).toNat xs).flatten = xs := by
            show (List.replicate 1 xs).flatten = xs
            simp
          exact h (.ref a) G (Ext.refl G) su (by rw [e1]; exact rp2)
        · have M := (Ext.frozen (o := .frz o (.tup (List.replicate k.toNat vs).flatten)) hn).mon su
          exact h (.ref p) (G.frozen p (.frz o (.tup (List.replicate k.toNat vs).flatten))) (Ext.frozen hn) (sure_frozen su hn) (.tup (.inl ⟨.inr rfl, o, ho, upd_same⟩) ((rr.rep k.toNat).mon M))
      · rw [if_neg hc] at e'
        cases e'
    | _ => cases e
  | _ => cases e
def pMulA (S : Stt) (p q : PV) : Option PV := (pMul S p q).or (pMulT S p q)
theorem op_pMulA (hK : z.K = X.K := by rfl) : OpD X z (binaryOp .Mult) pMulA := (op_pMul hK).or (op_pMulT hK)
end
end FS
set_option Elab.async false
set_option linter.all false
set_option maxRecDepth 100000
/-! FsSum: sum of a list or a tuple of ints; range with a step; a, b = new, e. -/
namespace FS
open PySem PySem.Spec L2 PyProof PyProof.Rows PySem.W
def intsOf : List PV → Option (List Int)
  | [] => some []
  | .int n :: xs => (intsOf xs).map (n :: ·)
  | _ :: _ => none
section
variable {X : Cx} {z : Zx} {pos p : Pos}
/-- range(i, j, -1) -/
def rng3 (ps : List PV) : Option (List PV) := match ps with
  | [.int i, .int j, .int c] => if (okR i && okR j && decide (c = -1)) = true then some ((List.range (i - j).toNat).map fun (k : Nat) => PV.int (i + k * -1)) else none
  | _ => none
def dRng3 (d : Cd (List PV)) : Cd (List PV) := bnd d fun ps => lift (rng3 ps)
/-! ### new lists side by side -/
/-- a new list, then a value that nothing is raised for: a, b = new, e -/
def dOwnSet (i j : Nat) (da : Cd (List PV)) (db : Cd PV) : Cd Flw := bnd da fun xs => fun e s => match db e s with
  | .ok q e s => .ok .next ((e.set i (.own xs)).set j (.val q)) s
  | _ => .bad
/-- a, b, c = e, new, [] -/
def dSetOwnNil (i j l : Nat) (da : Cd PV) (db : Cd (List PV)) : Cd Flw := bnd da fun p => bnd db fun xs => fun e s => .ok .next (((e.set i (.val p)).set j (.own xs)).set l (.own [])) s
variable {a b : Expr} {da : Cd PV} {k2 : Nat} {lpos px py pw pt pt2 : Pos} {kt : Nat}
theorem ms_ownSet (i j : Nat) {x y : Str} {d : Cd (List PV)} {db : Cd PV} (hN : X.N.Nodup) (ha : MF X z a d) (hb : ∀ G0, ME X (zc z G0) b db) (hij : i ≠ j := by decide) (hc : X.calm = true := by rfl) (hi : X.N[i]? = some x := by rfl) (hj : X.N[j]? = some y := by rfl)
    (hx : X.env.scope.names.lookup x = some .local := by rfl) (hy : X.env.scope.names.lookup y = some .local := by rfl)
    (hs0 : starEach [a, b] X.env = (false, eval a X.env) :: starEach [b] X.env := by rfl) (hs1 : starEach [b] X.env = (false, eval b X.env) :: starEach [] X.env := by rfl)
    (hw : swappedStores [.Tuple [.Name x px, .Name y py] kt pt] (.Tuple [a, b] k2 pt2) X.env = pure (some [x, y]) := by rfl)
    (hs : swapsWithSole [.Tuple [.Name x px, .Name y py] kt pt] (.Tuple [a, b] k2 pt2) pos.line X.env = pure false := by rfl) :
    MS X z (.Assign [.Tuple [.Name x px, .Name y py] kt pt] (.Tuple [a, b] k2 pt2) pos) (dOwnSet i j d db) := by
  have hpb : PE X b (REb z db) := ⟨fun pins s σ H Q I ⟨G0, h⟩ => (hb G0).run pins s σ H Q I h⟩
  refine PS.imp (ps_par hc hN hi hj hij hx hy (pa_cons ha (pa_cons hpb pa_nil hs1) hs0) hw hs) fun D σ H ⟨G, env, S, e, A, P⟩ => ?_
  subst e
  refine toF lwS A P fun xs env1 S1 a vs G1 m1 A1 r1 al P1 => ?_
  refine ⟨G1.less env1 σ, G1, env1, S1, rfl, A1.aside, ?_⟩
  cases e : db env1 S1 with
  | bad => simp only [e] at P1; exact P1.elim
  | raise c w e2 s2 => simp only [e] at P1; exact P1.elim
  | ok q env2 S2 =>
    simp only [e] at P1
    intro v G2 M B rv
    have hnD : ¬ ∃ i, IsOwn env1 i ∧ σ[i]? = some (some (.ref a)) := fun ⟨i, ho, q⟩ => al.no i ho q
    have hD0 : (G1.less env1 σ).H a = some (.lst vs) := by rw [less_same hnD]; exact al.at_
    have al2 : Alone z G2 env2 σ a vs := ⟨B.ent.keep a _ hD0 nt_lst al.nm, fun h => (B.ent.fzn a h).elim al.nf (fun h => h.no hD0 nt_lst), fun h => (B.ent.new a h).elim al.nm (fun h => h.no hD0 nt_lst), al.n0, fun i ho q => (B.mine i a ho q).no hD0 nt_lst⟩
    have A2 := A1.back B
    exact ⟨_, _, rfl, P1 _ G2 M ((A2.setOwn (i := i) (r1.mon M) al2).setVal rv)⟩
end
end FS
set_option Elab.async false
set_option linter.all false
set_option maxRecDepth 100000
/-! FsNilC: a, b = e, [] of names that others see. -/
namespace FS
open PySem PySem.Spec L2 PyProof PyProof.Rows PySem.W
end FS
set_option Elab.async false
set_option linter.all false
set_option maxRecDepth 100000
/-! FsCompT: comprehensions that make lambdas: the tables are known within. -/
namespace FS
open PySem PySem.Spec L2
open LamX (TabS Tabs CodeO)
end FS
set_option Elab.async false
set_option linter.all false
set_option maxRecDepth 100000
/-! FsCompS: comprehensions with tables, assigned. -/
namespace FS
open PySem PySem.Spec L2
open LamX (TabS Tabs CodeO)
end FS
set_option Elab.async false
set_option linter.all false
set_option maxRecDepth 100000
/-! FsCount: t.count(i), t a tuple of ints that has no dict. -/
namespace L2
open PySem PySem.Spec PyProof.Rows
def NdT (K : PySem.W.Frag) (H : Hp) (a : Addr) : Prop := (∃ (o : Obj) (vs : List V), o.dict = none ∧ H a = some (.frz o (.tup vs))) ∨ ∃ o, K.lookup a = some o ∧ o.dict = none
end L2
namespace FS
open PySem PySem.Spec L2
/-- t.count(i) -/
def dCount (da : Cd PV) (db : Cd (List PV)) : Cd PV := bnd da fun p => match p with
  | .tup xs => match intsOf xs with
    | some ns => bnd db fun q => match q with
      | [.int i] => ret (.int (ns.count i : Nat))
      | _ => fun _ _ => .bad
    | none => fun _ _ => .bad
  | _ => fun _ _ => .bad
section
variable {X : Cx} {z : Zx} {a b : Expr} {da : Cd PV} {db : Cd (List PV)} {apos cpos : Pos} {k : Nat}
theorem Td.nd {K : PySem.W.Frag} {G : Wd} {a : Addr} {vs : List V} (h : Td K G a vs) : NdT K G.H a := by
  rcases h with ⟨_, o, h1, h2⟩ | ⟨(h | ⟨o, h⟩) | ⟨o, _, _, h, _⟩, h2⟩
  · exact .inl ⟨o, vs, h1, h2⟩
  · cases h
  · cases h
  · exact .inr ⟨o, h, h2 o h⟩
end
end FS
set_option Elab.async false
set_option linter.all false
set_option maxRecDepth 100000
set_option maxHeartbeats 2000000
/-! FsGen: sum and all of a generator expression whose element reads only. -/
namespace FS
open PySem PySem.Spec PyProof.Rows L2
open LamX (TabS Tabs ExtN CodeO TabB inv_table among_app)
open GxR (GenS)
/-! ### a new code object in a table -/
theorem At.tabN {K : PySem.W.Frag} {G0 G : Wd} {S : Stt} {env : Env} {σ : L2.St} {T : List (Addr × Str)} {H1 : Hp} (A : At K G0 G S env σ) (hT : G0.T = T) (ex : ExtN G.H H1) (hT1 : Tabs T H1) :
    Ent G ⟨G.m, G.fz, H1, G.T⟩ ∧ Mon G ⟨G.m, G.fz, H1, G.T⟩ ∧ At K G0 ⟨G.m, G.fz, H1, G.T⟩ S env σ := by
  have nu : ∀ b, Nu H1 b → Nu G.H b := fun b h => by
    cases e : G.H b with
    | none => exact .inl e
    | some o =>
      by_cases ho : ∃ ps, o = .tbl ps
      · obtain ⟨ps, rfl⟩ := ho
        exact .inr ⟨ps, e⟩
      · exact (h.no (ex b o e (fun ps q => ho ⟨ps, q⟩)) (fun ps q => ho ⟨ps, q⟩)).elim
  have gT : G.T = T := A.ent.T.trans hT
  have E1 : Ent G ⟨G.m, G.fz, H1, G.T⟩ := ⟨⟨[], by simp⟩, fun b h => .inl h, fun b h => h, fun b h => .inl h, fun b o h nt _ => ex b o h nt, nu, rfl, fun _ => by rw [gT]; exact hT1⟩
  have M1 : Mon G ⟨G.m, G.fz, H1, G.T⟩ := E1.mon A.sure A.st
  have S1 : RepS K ⟨G.m, G.fz, H1, G.T⟩ S := ⟨A.st.len, A.st.nd, A.st.nf, fun i b o h1 h2 => by
    have q := A.st.ob i b o h1 h2
    cases o with
    | lst xs =>
      obtain ⟨vs, q1, q2⟩ := q
      exact ⟨vs, ex b _ q1 nt_lst, q2.mon M1⟩⟩
  have su1 : Sure ⟨G.m, G.fz, H1, G.T⟩ := fun b h => by
    obtain ⟨o, q, nt⟩ := A.sure b h
    exact ⟨o, ex b o q nt, nt⟩
  exact ⟨E1, M1, A.call E1 M1 S1 su1⟩
/-! ### the element's frame -/
structure GEnv (X : Cx) (scope : Scope) (x : Str) (σ : L2.St) (H : Hp) (u : Value) (cenv : PySem.Env) (s : Shared) (m : Str → Option Value) : Prop where
  sc : cenv.scope = scope
  gl : cenv.globals = mainGlobals
  bl : cenv.builtins = builtinsNs
  ns : s.heap.Ns cenv.locals m
  it : m x = some u
  hok : HOk X.prog X.w H s.heap
  bk : ∀ b o, X.base.get? b = some o → s.heap.get? b = some o
  mod : Mod X.K X.mg X.base
  cap : ∀ (i : Nat) (y : Str) (w : V), X.N[i]? = some y → σ[i]? = some (some w) → scope.names.lookup y = some .free → ∃ v c, RelV w v ∧ cenv.cells.lookup y = some c ∧ s.heap.IsCell c (some v)
theorem GEnv.later {X : Cx} {scope : Scope} {x : Str} {σ : L2.St} {H : Hp} {u : Value} {cenv : PySem.Env} {s s' : Shared} {m : Str → Option Value} (g : GEnv X scope x σ H u cenv s m) (k : Keeps s s') : GEnv X scope x σ H u cenv s' m := by
  obtain ⟨h', tk, rfl, kp⟩ := k
  refine ⟨g.sc, g.gl, g.bl, g.ns.keeps kp, g.it, g.hok.kept kp, fun b o e => kp b o (g.bk b o e), g.mod, fun i y w h1 h2 h3 => ?_⟩
  obtain ⟨v, c, r, e, o, ho, hd⟩ := g.cap i y w h1 h2 h3
  exact ⟨v, c, r, e, o, kp _ _ ho, hd⟩
section
variable {X : Cx} {scope : Scope} {x : Str} {pos p1 p2 p3 : Pos}
/-- the generator expression's own names -/
structure GS (sc scope : Scope) (x : Str) : Prop where
  kind : scope.kind = .function
  co : scope.isCoroutine = false
  cell : ∀ y ∈ scope.names, y.2 ≠ .cell
  dot : scope.names.lookup (".0" : Str) = some NameKind.local
  loc : scope.names.lookup x = some .local
  free : ∀ y ∈ scope.names, y.2 = .free → sc.names.lookup y.1 = some .cell ∨ sc.names.lookup y.1 = some .free
theorem GS.gen {X : Cx} {scope : Scope} {x : Str} (S : GS X.env.scope scope x) (ok : X.Ok) : GenS X.env scope x := ⟨S.kind, S.co, S.cell, S.dot, S.loc, fun y hy e => by
  rcases S.free y hy e with k | k
  · exact ok.has _ (.inl k)
  · exact ok.has _ (.inr k)⟩
theorem GS.cells {X : Cx} {scope : Scope} {x : Str} (S : GS X.env.scope scope x) (ok : X.Ok) {y : Str} {c : Addr} (h : scope.names.lookup y = some .free) (hc : X.env.cells.lookup y = some c) : (cloFrom X.env.cells scope.names []).lookup y = some c := by
  have hfree := (S.gen ok).free
  have cm : ∀ {y c}, (cloFrom X.env.cells scope.names []).lookup y = some c → X.env.cells.lookup y = some c := fun {y c} e => by
    rcases cloFrom_mem (PySem.mem_of_lookup e) with hm | ⟨h1, h2⟩
    · cases hm
    · obtain ⟨c1, hc⟩ := hfree _ h1 rfl
      have hc : X.env.cells.lookup y = some c1 := hc
      have e2 : c = c1 := by
        rw [h2, hc] <;> rfl
      rw [e2]
      exact hc
  have hy : (y, NameKind.free) ∈ scope.names := PySem.mem_of_lookup h
  obtain ⟨c2, e2⟩ := mem_lookup (cloFrom_has (cells := X.env.cells) (acc := []) hy)
  rw [e2, ← hc, cm e2]
/-- what is walked: a new iterator over it tells the items -/
def SrcOk (X : Cx) (G1 : Wd) (v : V) (ps : List PV) : Prop := ∀ (pins : List (Addr × Obj)) (σ : L2.St) (s1 : Shared) (u : Value), Inv X pins σ G1.H s1 → L2.RelV v u →
  ∃ (o : Obj) (fp : List Addr) (Pf : Nat → Value → Prop) (St : Nat → Heap → Prop),
    (∀ (Q : Value → Shared → Prop) (E : Value → Shared → Prop), Q (.ref s1.heap.objs.size) { s1 with heap := s1.heap.push o } → wpAny (model X.prog X.w) X.A (pyIter u) Q E s1) ∧
    (∀ A' : Around, A'.handled = none → Walks X.prog X.w A' s1.heap.objs.size fp [s1.heap.objs.size] ps.length Pf St) ∧ St 0 (s1.heap.push o) ∧
    (∀ b ∈ fp, b < s1.heap.objs.size + 1 ∧ ∀ ts, G1.H b ≠ some (.tbl ts)) ∧ (∀ i y, Pf i y → ∃ (p : PV) (w : V), ps[i]? = some p ∧ L2.RelV w y ∧ Rep X.K G1 p w)
theorem inv_gens {pins : List (Addr × Obj)} {σ : L2.St} {H : Hp} {h : Heap} {g g' : Array GenState} {d d' : Drawn} {t : Nat} {os : _} (J : Inv X pins σ H ⟨h, g, d, t, os⟩) (hg : AllBare g') : Inv X pins σ H ⟨h, g', d', t, os⟩ :=
  ⟨J.ok, J.os, hg, J.base, J.loc, J.cell, J.free, J.freeC, J.pin, J.hok, J.len⟩
end
end FS
set_option Elab.async false
set_option linter.all false
set_option maxRecDepth 100000
set_option maxHeartbeats 2000000
/-! FsGen2: what a generator expression walks; sum, all. -/
namespace FS
open PySem PySem.Spec PyProof.Rows L2
open LamX (TabS Tabs ExtN CodeO TabB)
section
variable {X : Cx} {z : Zx} {pos p1 p2 p3 : Pos}
/-! ### the source's denotation -/
def PostR (X : Cx) (z : Zx) (G : Wd) (σ : L2.St) (Q : VK) : Out (List PV) → Prop
  | .ok ps env S => ∀ (v : V) (G' : Wd), Mon G G' → At z.K z.G0 G' S env σ → SrcOk X G' v ps → Q v G'.H
  | .raise c w env S => ∀ σ', PRaise z G c w env S σ'
  | .bad => False
theorem PostR.later {G G1 : Wd} {σ : L2.St} {Q : VK} {o : Out (List PV)} (h : PostR X z G σ Q o) (M : Mon G G1) : PostR X z G1 σ Q o := by
  cases o with
  | ok p env S => exact fun v G' m a r => h v G' (M.trans m) a r
  | raise c w env S => exact fun σ' => (h σ').later M
  | bad => exact h
/-! ### sum, all -/
def qMap (q : Env → PV → Option PV) (env : Env) : List PV → Option (List PV)
  | [] => some []
  | p :: ps => match q env p, qMap q env ps with
    | some r, some rs => some (r :: rs)
    | _, _ => none
def blsOf : List PV → Option (List Bool)
  | [] => some []
  | .bl b :: xs => (blsOf xs).map (b :: ·)
  | _ :: _ => none
/-- small numbers, few of them -/
def few (ns : List Int) : Bool := ns.all (fun n => decide (0 ≤ n) && decide (n ≤ 1048576)) && decide (ns.length ≤ 1048576)
def dSumG (d : Cd (List PV)) (q : Env → PV → Option PV) : Cd PV := bnd d fun ps => fun e s => match (qMap q e ps).bind intsOf with
  | some ns => if few ns = true then .ok (.int ns.sum) e s else .bad
  | none => .bad
def dAllG (d : Cd (List PV)) (q : Env → PV → Option PV) : Cd PV := bnd d fun ps => fun e s => match (qMap q e ps).bind blsOf with
  | some bs => .ok (.bl (bs.all id)) e s
  | none => .bad
variable {T : List (Addr × Str)} {c P : Addr} {elt iter : Expr} {px gpos : Pos} {scope : Scope} {x : Str} {q : Env → PV → Option PV} {d : Cd (List PV)} {k : Nat}
end
end FS
set_option Elab.async false
set_option linter.all false
set_option maxRecDepth 100000
set_option maxHeartbeats 2000000
/-! FsGen3: min, max of a list or a tuple of ints; the same within generator expressions. -/
namespace FS
open PySem PySem.Spec PyProof PyProof.Rows L2
/-! ### the least, the greatest -/
end FS
set_option Elab.async false
set_option linter.all false
set_option maxRecDepth 100000
set_option maxHeartbeats 2000000
/-! FsGc1: generator expressions of two fors: made; their code's turns. -/
namespace FS
open PySem PySem.Spec PyProof.Rows L2
/-- the generator expression of two fors -/
abbrev GE2 (elt t0 i0 t1 i1 : Expr) (scope : Scope) (pos : Pos) : Expr := .GeneratorExp elt [⟨t0, i0, [], 0⟩, ⟨t1, i1, [], 0⟩] scope pos
theorem ge2_eval (elt t0 i0 t1 i1 : Expr) (scope : Scope) (pos : Pos) (env : PySem.Env) (hco : scope.isCoroutine = false) : eval (GE2 elt t0 i0 t1 i1 scope pos) env = (do
      let xv ← eval i0 env
      standAt i0.pos
      let xv ← genFold i0 env xv
      let iv ← holding [xv] (pyIter xv)
      enterFrame
      let cls ← closureFor scope env
      let cd ← genexprCode env pos (env.qual ++ "<genexpr>") scope
      let bn ← builtinsFor env.globals env.builtins
      let ge ← newFunctionEnv scope env.globals cls [(".0", iv)] (env.qual ++ "<genexpr>.") none cd none bn
      newGenerator (.compStart (GE2 elt t0 i0 t1 i1 scope pos) 0 iv .none ge) "<genexpr>" (env.qual ++ "<genexpr>")) := by
  unfold GE2
  rw [arm_eval_GeneratorExp]
  simp only [hco, Bool.false_eq_true, if_false]
  cases i0 <;> rfl
section
variable {M : Model} {A : Around} {E : Value → Shared → Prop} {s : Shared}
theorem ge2_make {env : PySem.Env} {elt t0 i0 t1 i1 : Expr} {scope : Scope} {cl : List (Str × Addr)} {pos : Pos} {Q : Value → Shared → Prop}
    (hco : scope.isCoroutine = false) (hcl : closureFor scope env = pure cl) (hce : ∀ y ∈ scope.names, y.2 ≠ .cell) (hd : scope.names.lookup (".0" : Str) = some NameKind.local) (hk : scope.kind = .function) (hroom : A.depth < recursionLimit)
    (h : wpAny M A (eval i0 env) (fun xv s1 => wpAny M A (pyIter xv) (fun iv s2 => s2.heap.NoLimit ∧
      wpAny M A (genexprCode env pos (env.qual ++ "<genexpr>") scope) (fun cd s3 => wpAny M A (builtinsFor env.globals env.builtins) (fun bn s4 =>
        ∀ h', h'.Ns s4.heap.objs.size (fun y => if y = ".0" then some iv else none) → Heap.SameBut s4.heap.objs.size (s4.heap.push { cls := .type "frame", data := .dict #[] }) h' →
          Q (.ref h'.objs.size) { s4 with
            gens := s4.gens.push (.fresh (.compStart (GE2 elt t0 i0 t1 i1 scope pos) 0 iv .none (genEnv scope cl s4.heap.objs.size cd bn env))),
            toks := s4.toks + 1 + 1 + 1,
            heap := h'.push { cls := .type "generator", data := .fields #[.int s4.gens.size 0, .str "<genexpr>" (s4.toks + 1), .str (env.qual ++ "<genexpr>") (s4.toks + 1 + 1)] } }) E s3) E s2) E s1) E s)
    (hs : ∀ xv, genFold i0 env xv = pure xv) : wpAny M A (eval (GE2 elt t0 i0 t1 i1 scope pos) env) Q E s := by
  rw [ge2_eval _ _ _ _ _ _ _ _ hco, hcl]
  refine wpAny_bind (wpAny_mono h (fun xv s1 g1 => ?_) fun _ _ z => z)
  refine wpAny_bind (wpAny_standAt (wpAny_bind (wpAny_of_eq (hs xv) ?_)))
  refine wpAny_bind (wpAny_holding (wpAny_mono g1 (fun iv s2 g2 => ?_) fun _ _ z => z))
  refine wpAny_bind (wpAny_enterFrame g2.1 hroom (wpAny_bind (wpAny_pure ?_)))
  refine wpAny_bind (wpAny_mono g2.2 (fun cd s3 g3 => ?_) fun _ _ z => z)
  refine wpAny_bind (wpAny_mono g3 (fun bn s4 g4 => ?_) fun _ _ z => z)
  have hb : ∀ y ∈ ([((".0" : Str), iv)] : List (Str × Value)), scope.names.lookup y.1 = some NameKind.local := fun y hy => by
    rw [List.mem_singleton.mp hy]
    exact hd
  refine wpAny_bind (wpAny_newFunctionEnv hce hb (fun h' hn hsb => ?_) hk)
  have e : (fun y : Str => ([((".0" : Str), iv)] : List (Str × Value)).reverse.lookup y) = fun y : Str => if y = (".0" : Str) then some iv else none := by
    funext y
    by_cases hy : y = ".0"
    · rw [hy]; simp
    · have q : (y == (".0" : Str)) = false := by simpa using hy
      simp [List.lookup, q, hy]
  rw [e] at hn
  simp only [newGenerator, newFields]
  exact wpAny_bind (wpAny_newGen (wpAny_bind (wpAny_mkText (wpAny_bind (wpAny_mkText (wpAny_newObj_type (g4 h' hn hsb) (by size_fits)))))))
end
/-! ### the turns -/
theorem ge2_turn0 (elt t0 i0 t1 i1 : Expr) (scope : Scope) (pos : Pos) (it acc : Value) (env : PySem.Env) : compTurn (GE2 elt t0 i0 t1 i1 scope pos) 0 it acc env = (do
      standAt i0.pos
      match ← pyNext it with
      | none => pure (.done .next)
      | some v =>
        letOwnedTupleGo t0 it v
        assign t0 env v
        let xv ← eval i1 env
        standAt i1.pos
        let xv ← foldedSetIterable i1 env xv
        let _ ← runOwn (.compStart (GE2 elt t0 i0 t1 i1 scope pos) 1 (← holding [xv] (pyIter xv)) acc env) env
        again (.compLoop (GE2 elt t0 i0 t1 i1 scope pos) 0 it acc env)) := by rfl
theorem ge2_turn1 (elt t0 i0 t1 i1 : Expr) (scope : Scope) (pos : Pos) (it acc : Value) (env : PySem.Env) : compTurn (GE2 elt t0 i0 t1 i1 scope pos) 1 it acc env = (do
      standAt i1.pos
      match ← pyNext it with
      | none => pure (.done .next)
      | some v =>
        letOwnedTupleGo t1 it v
        assign t1 env v
        (do let y ← eval elt env; standAt elt.pos; let _ ← yieldOut env y)
        again (.compLoop (GE2 elt t0 i0 t1 i1 scope pos) 1 it acc env)) := by rfl
end FS
set_option Elab.async false
set_option linter.all false
set_option maxRecDepth 100000
set_option maxHeartbeats 2000000
/-! FsGc2: the loops of a generator expression of two fors, from yield to yield. -/
namespace FS
open PySem PySem.Spec PyProof.Rows L2 GenW
theorem over_ge0 {A : Around} {elt t0 i0 t1 i1 : Expr} {scope : Scope} {pos : Pos} {it acc : Value} {env : PySem.Env} : A.over (.compLoop (GE2 elt t0 i0 t1 i1 scope pos) 0 it acc env) [] = A.deeper env := by rfl
/-- between a yield and the next turn: all is kept -/
structure Woke (s s' : Shared) : Prop where
  os : s'.os = s.os
  bare : AllBare s'.gens
  keep : ∀ b o, s.heap.get? b = some o → s'.heap.get? b = some o
theorem Woke.inv {X : Cx} {pins : List (Addr × Obj)} {σ : L2.St} {H : Hp} {s s' : Shared} (k : Woke s s') (I : Inv X pins σ H s) : Inv X pins σ H s' := by
  obtain ⟨h', g', d', t', o'⟩ := s'
  have e : o' = s.os := k.os
  subst e
  exact inv_gens (I.kept (t' := t') k.keep) k.bare
/-- a yield of a truth value b: what is wanted of False, what follows True -/
def YB (X : Cx) (Qf : Hp → Prop) : Protocol := fun _ _ v s kap => ∃ (b : Bool) (σ : L2.St) (H : Hp), v = .bool b ∧ Inv X [] σ H s ∧ (b = false → Qf H) ∧ (b = true → ∀ s', Woke s s' → kap (.send .none) s')
/-- the end -/
def RB (X : Cx) (Qt : Hp → Prop) : GenEnd := fun _ _ r s => r = .ok .next ∧ ∃ (σ : L2.St) (H : Hp), Inv X [] σ H s ∧ Qt H
/-- the inner loop's reading -/
def In2 (g : TG) (te : TE) (Qf : Hp → Prop) (Nx : L2.St → Hp → Prop) (J : It) (W : Nat → Nat → L2.St → Hp → Prop) : Prop := ∀ j k σ H, W j k σ H →
  (J.stop j H ∧ Nx σ H) ∨ (J.go j H ∧ 0 < k ∧ ∃ N : L2.St → Hp → Prop, (∀ σ' H', N σ' H' → ∃ k', k' < k ∧ W (j + 1) k' σ' H') ∧ ∀ x H', J.yld j H x H' → g x σ H' fun σ3 H5 => te σ3 H5 fun y H7 => ∃ b, y = .bl b ∧ (b = false → Qf H7) ∧ (b = true → N σ3 H7))
/-- the outer loop's -/
def Out2 (g : TG) (wi1 : TI) (g1 : TG) (te : TE) (B : Nat) (Qf Qt : Hp → Prop) (J : It) (W : Nat → Nat → L2.St → Hp → Prop) : Prop := ∀ i m σ H, W i m σ H →
  (J.stop i H ∧ Qt H) ∨ (J.go i H ∧ 0 < m ∧ ∃ N : L2.St → Hp → Prop, (∀ σ' H', N σ' H' → ∃ m', m' < m ∧ W (i + 1) m' σ' H') ∧ ∀ x H', J.yld i H x H' → g x σ H' fun σ2 H2 => wi1 σ2 H2 fun J1 H4 => ∃ W1 : Nat → Nat → L2.St → Hp → Prop, (∃ k, k ≤ B ∧ W1 0 k σ2 H4) ∧ In2 g1 te Qf N J1 W1)
section
variable {h0 : Heap} {X : Cx} {A : Around} {elt t0 i0 t1 i1 : Expr} {scope : Scope} {pos : Pos} {it : Addr} {acc : Value} {R : GenEnd} {Qf Qt : Hp → Prop} {wi1 : TI} {g g1 : TG} {te : TE}
theorem seg_in2 {Nx : L2.St → Hp → Prop} {J : It} {fp : List Addr} {it1 : Addr} {tn : Nat → Heap → Prop} {W : Nat → Nat → L2.St → Hp → Prop} {pins : List (Addr × Obj)} {base : Nat} {K : Result → Sem PySem.Fin} {l : List Value} {p : Pos}
    (hA : A.deeper X.env = X.A) (hc : X.calm = true) (hx : ∀ e s, ¬ X.xe e s) (hco : X.env.scope.isCoroutine = false) (pg : PG X t1 g1) (pe : PE X elt te) (T : Turn X.prog X.w X.K t1 J fp it1 tn) (hst : ∀ b ∈ fp, ∀ H : Hp, H b = none → FpOk X pins H b) (turn : In2 g1 te Qf Nx J W)
    (hend : ∀ (n : Nat) (s₀ s : Shared) (σ : L2.St) (H : Hp), base ≤ n → Inv X pins σ H s → Nx σ H → Seg (model X.prog X.w) A R (YB X Qf) n s₀ (.compLoop (GE2 elt t0 i0 t1 i1 scope pos) 0 (.ref it) acc X.env) (K (.ok .next)) [] s) :
    ∀ (k j n : Nat) (s₀ s : Shared) (σ : L2.St) (H : Hp), base + k ≤ n → Inv X pins σ H s → tn j s.heap → (∀ b ∈ fp, H b = none) → W j k σ H →
      Seg (model X.prog X.w) A R (YB X Qf) n s₀ (.compLoop (GE2 elt t0 i0 t1 i1 scope pos) 1 (.ref it1) acc X.env) ((model X.prog X.w).den (.compLoop (GE2 elt t0 i0 t1 i1 scope pos) 1 (.ref it1) acc X.env))
        [.ret K none false l (.compLoop (GE2 elt t0 i0 t1 i1 scope pos) 0 (.ref it) acc X.env) p []] s := by
  have ho : A.over (.compLoop (GE2 elt t0 i0 t1 i1 scope pos) 1 (.ref it1) acc X.env) [.ret K none false l (.compLoop (GE2 elt t0 i0 t1 i1 scope pos) 0 (.ref it) acc X.env) p []] = X.A := (over_loop rfl rfl).trans (over_ge0.trans hA)
  have nx : ∀ {α : Type} {t : Sem α} {Q : α → Shared → Prop} {s : Shared} {E' : Value → Shared → Prop}, wpAny (model X.prog X.w) X.A t Q X.xe s → wpAny (model X.prog X.w) X.A t Q E' s := fun h => wpAny_mono h (fun _ _ h => h) fun e s h => absurd h (hx e s)
  intro k
  induction k using Nat.strongRecOn with
  | ind k ih =>
    intro j n s₀ s σ H hn I st hN w
    show Seg _ A _ _ _ s₀ _ ((compTurn (GE2 elt t0 i0 t1 i1 scope pos) 1 (.ref it1) acc X.env).onRaise (fun x => do noteFrame x X.env; theTreesLotGoes x)) _ s
    rw [ge2_turn1, Sem.onRaise_eq_wrap]
    refine seg_bind_wrap (wpAny_standAt ?_)
    rcases turn j k σ H w with ⟨stop, q⟩ | ⟨go, h0, N, hNk, step⟩
    · refine seg_bind_wrap ?_
      rw [ho]
      refine thnF (T.done X rfl rfl rfl hc j pins s σ H (fun _ _ => False) I (fun b hb => hst b hb H (hN b hb)) st stop) fun r s1 ⟨hr, I1⟩ => ?_
      subst hr
      exact seg_leaf (.ok .next) (hend n s₀ s1 σ H (by omega) I1 q)
    · refine seg_bind_wrap ?_
      rw [ho]
      refine thnF (T.item X rfl rfl rfl hc j pins s σ H (fun _ _ => False) I (fun b hb => hst b hb H (hN b hb)) st go) fun r s1 ⟨u, hr, h1⟩ => ?_
      subst hr
      refine seg_bind_wrap ?_
      rw [ho]
      refine thnF h1 fun _ s2 ⟨x, H2, I2, r2, y2, st2, n2⟩ => ?_
      have I2' := I2.pinned (fun b hb => hst b hb H2 (n2 b hb)) (T.obj _ _ st2)
      refine seg_bind_wrap ?_
      rw [ho]
      refine nx (thn (pg.run _ s2 σ H2 x u _ I2' r2 (step x H2 y2)) fun _ s3 ⟨σ3, H3, I3, q3⟩ => ?_)
      have hy : ∀ v, yieldOut X.env v = yieldValue v := fun v => by simp only [yieldOut, hco, Bool.false_eq_true, if_false]
      simp only [hy]
      rw [Sem.bind_eq_wrap', Sem.bind_eq_wrap', Sem.wrap_wrap, Sem.wrap_wrap]
      refine seg_wrap ?_
      rw [ho]
      refine nx (thn (pe.run _ s3 σ3 H3 _ I3 q3) fun y s4 ⟨v4, H4, I4, r4, b, e4, qf, qt⟩ => ?_)
      subst e4
      obtain rfl : y = .bool b := r4
      have pin' : ∀ c ∈ fp, ∀ o, s2.heap.get? c = some o → s4.heap.get? c = some o ∧ H4 c = none := fun c hc o e =>
        let z := I4.pin (c, o) (List.mem_append_right _ (List.mem_append_right _ (mem_pinsAt hc e)))
        ⟨z.1, z.2.1⟩
      obtain ⟨n, rfl⟩ : ∃ m, n = m + 1 := ⟨n - 1, by omega⟩
      cases b with
      | false =>
        refine seg_at (seg_yield rfl rfl rfl ⟨false, σ3, H4, rfl, I4.pins_of fun q hq => absurd hq (by simp), fun _ => qf rfl, fun z => absurd z Bool.false_ne_true⟩)
      | true =>
        obtain ⟨k', hk, w'⟩ := hNk σ3 H4 (qt rfl)
        refine seg_at (seg_yield rfl rfl rfl ⟨true, σ3, H4, rfl, I4.pins_of fun q hq => absurd hq (by simp), fun z => absurd z.symm Bool.false_ne_true, fun _ s' hw => ?_⟩)
        refine seg_again rfl (ih k' hk (j + 1) n s' s' σ3 H4 (by omega) (hw.inv I4).unpinned (T.keep _ _ _ st2 fun c hc o e => hw.keep c o (pin' c hc o e).1) (fun c hc => ?_) w')
        obtain ⟨o, e, _⟩ := T.obj _ _ st2 c hc
        exact (pin' c hc o e).2
/-- a clause's start -/
theorem seg_cst {d : Nat} {it1 : Addr} {n : Nat} {s₀ s : Shared} {fs : List Frame} {env : PySem.Env}
    (hself : ∀ (A' : Around) (s : Shared) (Q : Value → Shared → Prop) (E : Value → Shared → Prop), (s.heap = h0) → Q (.ref it1) s → wpAny (model X.prog X.w) A' (pyIter (.ref it1)) Q E s)
    (e0 : s.heap = h0) (hd : d = 0 ∨ d = 1)
    (loop : Seg (model X.prog X.w) A R (YB X Qf) n s₀ (.compLoop (GE2 elt t0 i0 t1 i1 scope pos) d (.ref it1) acc env) ((model X.prog X.w).den (.compLoop (GE2 elt t0 i0 t1 i1 scope pos) d (.ref it1) acc env)) fs s) :
    Seg (model X.prog X.w) A R (YB X Qf) n s₀ (.compStart (GE2 elt t0 i0 t1 i1 scope pos) d (.ref it1) acc env) ((model X.prog X.w).den (.compStart (GE2 elt t0 i0 t1 i1 scope pos) d (.ref it1) acc env)) fs s := by
  have go : ∀ h : Value → Sem Unit, Seg (model X.prog X.w) A R (YB X Qf) n s₀ (.compStart (GE2 elt t0 i0 t1 i1 scope pos) d (.ref it1) acc env) ((compStart (GE2 elt t0 i0 t1 i1 scope pos) d (.ref it1) acc env).onRaise h) fs s := fun h => by
    unfold compStart
    rw [Sem.onRaise_eq_wrap]
    rcases hd with rfl | rfl
    · show Seg _ A _ _ _ s₀ _ ((ask >>= _).wrap _ _ _ _) fs s
      refine seg_bind_wrap (wpAny_askSetting ?_)
      split
      · exact seg_again rfl loop
      · first
          | exact seg_bind_wrap (wpAny_rule (seg_bind_wrap (wpAny_standAt (seg_bind_wrap (hself _ _ _ _ e0 (seg_again rfl loop))))))
          | (refine seg_bind_wrap (wpAny_rule ?_); show Seg _ A _ _ _ s₀ _ ((standAt i0.pos >>= _).wrap _ _ _ _) fs s; exact seg_bind_wrap (wpAny_standAt (seg_bind_wrap (hself _ _ _ _ e0 (seg_again rfl loop)))))
    · show Seg _ A _ _ _ s₀ _ ((ask >>= _).wrap _ _ _ _) fs s
      refine seg_bind_wrap (wpAny_askSetting ?_)
      split
      · exact seg_again rfl loop
      · first
          | exact seg_bind_wrap (wpAny_rule (seg_bind_wrap (wpAny_standAt (seg_bind_wrap (hself _ _ _ _ e0 (seg_again rfl loop))))))
          | (refine seg_bind_wrap (wpAny_rule ?_); show Seg _ A _ _ _ s₀ _ ((standAt i1.pos >>= _).wrap _ _ _ _) fs s; exact seg_bind_wrap (wpAny_standAt (seg_bind_wrap (hself _ _ _ _ e0 (seg_again rfl loop)))))
  rcases hd with rfl | rfl
  · exact go (leaving env)
  · exact go (fun x => do noteFrame x env; standAt theWindowsPlace)
/-- the outer loop -/
theorem seg_out2 {J : It} {fp : List Addr} {tn : Nat → Heap → Prop} {W : Nat → Nat → L2.St → Hp → Prop} {B : Nat}
    (hA : A.deeper X.env = X.A) (hc : X.calm = true) (hx : ∀ e s, ¬ X.xe e s) (hco : X.env.scope.isCoroutine = false) (pg0 : PG X t0 g) (pi1 : PI X t1 i1 wi1) (pg : PG X t1 g1) (pe : PE X elt te) (hs : ∀ v, foldedSetIterable i1 X.env v = pure v)
    (T : Turn X.prog X.w X.K t0 J fp it tn) (hst : ∀ b ∈ fp, ∀ H : Hp, H b = none → FpOk X [] H b) (turn : Out2 g wi1 g1 te B Qf Qt J W) :
    ∀ (m i n : Nat) (s₀ s : Shared) (σ : L2.St) (H : Hp), (B + 1) * m ≤ n → Inv X [] σ H s → tn i s.heap → (∀ b ∈ fp, H b = none) → W i m σ H →
      Seg (model X.prog X.w) A (RB X Qt) (YB X Qf) n s₀ (.compLoop (GE2 elt t0 i0 t1 i1 scope pos) 0 (.ref it) acc X.env) ((model X.prog X.w).den (.compLoop (GE2 elt t0 i0 t1 i1 scope pos) 0 (.ref it) acc X.env)) [] s := by
  have ho : A.over (.compLoop (GE2 elt t0 i0 t1 i1 scope pos) 0 (.ref it) acc X.env) [] = X.A := over_ge0.trans hA
  have nx : ∀ {α : Type} {t : Sem α} {Q : α → Shared → Prop} {s : Shared} {E' : Value → Shared → Prop}, wpAny (model X.prog X.w) X.A t Q X.xe s → wpAny (model X.prog X.w) X.A t Q E' s := fun h => wpAny_mono h (fun _ _ h => h) fun e s h => absurd h (hx e s)
  intro m
  induction m using Nat.strongRecOn with
  | ind m ih =>
    intro i n s₀ s σ H hn I st hN w
    show Seg _ A _ _ _ s₀ _ ((compTurn (GE2 elt t0 i0 t1 i1 scope pos) 0 (.ref it) acc X.env).onRaise (leaving X.env)) _ s
    rw [ge2_turn0, Sem.onRaise_eq_wrap]
    refine seg_bind_wrap (wpAny_standAt ?_)
    rcases turn i m σ H w with ⟨stop, q⟩ | ⟨go, h0m, N, hNk, step⟩
    · refine seg_bind_wrap ?_
      rw [ho]
      refine thnF (T.done X rfl rfl rfl hc i [] s σ H (fun _ _ => False) I (fun b hb => hst b hb H (hN b hb)) st stop) fun r s1 ⟨hr, I1⟩ => ?_
      subst hr
      exact seg_end (.ok .next) ⟨rfl, σ, H, I1, q⟩
    · refine seg_bind_wrap ?_
      rw [ho]
      refine thnF (T.item X rfl rfl rfl hc i [] s σ H (fun _ _ => False) I (fun b hb => hst b hb H (hN b hb)) st go) fun r s1 ⟨u, hr, h1⟩ => ?_
      subst hr
      refine seg_bind_wrap ?_
      rw [ho]
      refine thnF h1 fun _ s2 ⟨x, H2, I2, r2, y2, st2, n2⟩ => ?_
      have I2' := I2.pinned (fun b hb => hst b hb H2 (n2 b hb)) (T.obj _ _ st2)
      refine seg_bind_wrap ?_
      rw [ho]
      refine nx (thn (pg0.run _ s2 σ H2 x u _ I2' r2 (step x H2 y2)) fun _ s3 ⟨σ3, H3, I3, q3⟩ => ?_)
      refine seg_bind_wrap ?_
      rw [ho]
      refine nx (thn (pi1.run _ s3 σ3 H3 _ I3 q3) fun xv s4 h4 => ?_)
      refine seg_bind_wrap (wpAny_standAt ?_)
      refine seg_bind_wrap (wpAny_of_eq (hs xv) ?_)
      refine seg_bind_wrap (wpAny_holding ?_)
      rw [ho]
      refine nx (thn h4 fun itv s5 h5 => ?_)
      obtain ⟨it1, fp1, tn1, J1, H5, e5, I5, T1, st5, f5, W1, ⟨k1, hk1, w1⟩, turn1⟩ := h5
      subst e5
      refine seg_call fun p => ?_
      have stat1 : ∀ b ∈ fp1, ∀ H' : Hp, H' b = none → FpOk X ([] ++ pinsAt fp s2.heap) H' b := fun b hb H' hn => ⟨hn, (f5 b hb).2⟩
      refine seg_cst (h0 := s5.heap) (fun A' s' Q E e h => T1.self A' 0 s' Q E (by rw [e]; exact st5) h) rfl (.inr rfl) ?_
      have hmul : (B + 1) * (m - 1) + (B + 1) ≤ (B + 1) * m := by
        obtain ⟨q, rfl⟩ : ∃ q, m = q + 1 := ⟨m - 1, by omega⟩
        rw [Nat.add_sub_cancel, Nat.mul_succ]
        exact Nat.le_refl _
      refine seg_in2 (base := (B + 1) * (m - 1)) hA hc hx hco pg pe T1 stat1 turn1 (fun n' s₀' s' σ' H' hn' I' nxt => ?_) k1 0 n s₀ s5 σ3 H5 ?_ I5 st5 (fun b hb => (f5 b hb).1) w1
      · obtain ⟨m', hm, w'⟩ := hNk σ' H' nxt
        have pin' : ∀ c ∈ fp, ∀ o, s2.heap.get? c = some o → s'.heap.get? c = some o ∧ H' c = none := fun c hc o e =>
          let z := I'.pin (c, o) (List.mem_append_right _ (List.mem_append_right _ (mem_pinsAt hc e)))
          ⟨z.1, z.2.1⟩
        refine seg_again rfl (ih m' hm (i + 1) n' s₀' s' σ' H' ?_ I'.unpinned (T.keep _ _ _ st2 fun c hc o e => (pin' c hc o e).1) (fun c hc => ?_) w')
        · refine Nat.le_trans (Nat.mul_le_mul_left _ ?_) hn'
          omega
        · obtain ⟨o, e, _⟩ := T.obj _ _ st2 c hc
          exact (pin' c hc o e).2
      · omega
end
end FS
set_option Elab.async false
set_option linter.all false
set_option maxRecDepth 100000
set_option maxHeartbeats 2000000
/-! FsGc3: the generator's frame; all(..) draws it. -/
namespace FS
open PySem PySem.Spec PyProof.Rows L2 GenW
open LamX (TabS Tabs ExtN CodeO TabB inv_table among_app)
section
variable {X : Cx} {pins : List (Addr × Obj)} {σ : L2.St} {H : Hp} {s : Shared} {T : List (Addr × Str)} {c P : Addr} {scope : Scope} {gpos : Pos}
/-- the code object of a generator expression: found, or made -/
theorem gen_code {Q : Value → Addr → Shared → Prop} {E : Value → Shared → Prop} (TB : TabB X.base X.mg c P) (hcode : X.env.code = .ref c) (hmT : (P, X.env.qual ++ "<genexpr>") ∈ T) (hu : ∀ p ∈ T, p.1 = P → p.2 = X.env.qual ++ "<genexpr>") (I : Inv X pins σ H s) (hT : Tabs T H)
    (hQ : ∀ (cd : Value) (s' : Shared) (H' : Hp), ExtN H H' → Tabs T H' → Inv X pins σ H' s' → (∀ b o, b ≠ P → s.heap.get? b = some o → s'.heap.get? b = some o) → (∀ b, b < s.heap.objs.size → H b = none → H' b = none) → Q cd builtinsNs s') :
    wpAny (model X.prog X.w) X.A (genexprCode X.env gpos (X.env.qual ++ "<genexpr>") scope) (fun cd s3 => wpAny (model X.prog X.w) X.A (builtinsFor X.env.globals X.env.builtins) (fun bn s4 => Q cd bn s4) E s3) E s := by
  obtain ⟨tabs, hP, ht, ha⟩ := hT _ hmT
  have hPs : s.heap.get? P = some { cls := .none, data := .fields tabs } := I.hok P _ hP
  have cdh : PySem.W.CodeHd s.heap c P := TB.code.keeps fun b u e => I.bk b u e
  have blt : ∀ (s3 : Shared) (cd : Value), (∀ b o, b ≠ P → s.heap.get? b = some o → s3.heap.get? b = some o) → Q cd builtinsNs s3 → wpAny (model X.prog X.w) X.A (builtinsFor X.env.globals X.env.builtins) (fun bn s4 => Q cd bn s4) E s3 := fun s3 cd hk q => by
    obtain ⟨bm, ob, e1, e2, e3, e4, e5, e6, e7, e8⟩ := TB.bm
    have hxb : Heap.ExtBut P s.heap s3.heap := fun b u hb e => hk b u hb e
    exact wpAny_builtinsFor (m := X.mg) (by rw [I.ok.glob]; exact (I.mod.glob.keeps I.bk).extBut hxb TB.gP) e1 e2 (hk _ _ e4 (I.bk _ _ e5)) e6 e7 e8 q
  cases hf : codeAmong gpos tabs.toList with
  | none =>
    refine wpAny_genexprCodeX hcode (cdh.code hPs ht) (cdh.tab hPs) hf fun c' h' tk hx hge hlt hco' hrec htab' _ => ?_
    obtain ⟨c2, oc, vs, t, e2, hoc, hd, hv⟩ := hrec
    cases e2
    have nC : H c' = none := I.hok.fresh hge
    have hE : ExtN H (upd (upd H P (.tbl (tabs ++ #[rawInt gpos.line, rawInt gpos.col, .ref c']))) c' (CodeO c' (X.env.qual ++ "<genexpr>"))) := fun b o e n => by
      have n1 : b ≠ P := fun z => n tabs (Option.some.inj (e.symm.trans (by rw [z]; exact hP)))
      rw [upd_ne (ne_of_none e nC), upd_ne n1]
      exact e
    have kn : ∀ b, b < s.heap.objs.size → H b = none → (upd (upd H P (.tbl (tabs ++ #[rawInt gpos.line, rawInt gpos.col, .ref c']))) c' (CodeO c' (X.env.qual ++ "<genexpr>"))) b = none := fun b hb e => by
      rw [upd_ne (fun z => absurd (Nat.lt_of_lt_of_le hb hge) (by rw [z]; exact Nat.lt_irrefl _)), upd_ne (fun z => by rw [z, hP] at e; cases e)]
      exact e
    have eL : (tabs ++ #[rawInt gpos.line, rawInt gpos.col, .ref c']).toList = tabs.toList ++ [rawInt gpos.line, rawInt gpos.col, .ref c'] := by simp
    have J := inv_table (t' := tk) (more := #[rawInt gpos.line, rawInt gpos.col, .ref c']) (h' := h') I hP (fun b u hb e => hx b u hb e) htab'.2 hge ⟨oc, vs, t, hoc, hd, hv⟩
    refine blt _ _ (fun b u hb e => hx b u hb e) (hQ (.ref c') _ _ hE (fun p hp => ?_) J (fun b u hb e => hx b u hb e) kn)
    by_cases hb : p.1 = P
    · rw [hu p hp hb, hb]
      refine ⟨_, by rw [upd_ne (ne_of_none hP nC), upd_same], by rw [eL]; exact PySem.TriplesOk_snoc _ _ _ _ ht, fun p' cv hcv => ?_⟩
      rw [eL] at hcv
      rcases among_app _ ht hcv with z | z
      · obtain ⟨c0, e1, e2⟩ := ha p' cv z
        exact ⟨c0, e1, hE _ _ e2 LamX.codeO_ne⟩
      · exact ⟨c', z, upd_same⟩
    · obtain ⟨ps', a1, a2, a3⟩ := hT p hp
      refine ⟨ps', by rw [upd_ne (ne_of_none a1 nC), upd_ne hb]; exact a1, a2, fun p' cv hcv => ?_⟩
      obtain ⟨c0, e1, e2⟩ := a3 p' cv hcv
      exact ⟨c0, e1, hE _ _ e2 LamX.codeO_ne⟩
  | some cv =>
    obtain ⟨c', e, hco⟩ := ha gpos cv hf
    subst e
    exact wpAny_genexprCode_hit hcode (cdh.code hPs ht) hf (blt _ _ (fun b u _ e => e) (hQ (.ref c') s H (ExtN.refl _) hT I (fun b u _ e => e) fun _ _ e => e))
end
/-- the generator's own names: x0, x1; the others are captured ones and globals -/
structure GN (N : List Str) (sc scope : Scope) : Prop where
  kind : scope.kind = .function
  co : scope.isCoroutine = false
  cell : ∀ y ∈ scope.names, y.2 ≠ .cell
  dot : scope.names.lookup (".0" : Str) = some NameKind.local
  free : ∀ y ∈ scope.names, y.2 = .free → sc.names.lookup y.1 = some .cell ∨ sc.names.lookup y.1 = some .free
  loc : ∀ y ∈ scope.names, y.2 = .local → y.1 ∉ N
def gnB (N : List Str) (sc scope : Scope) : Bool :=
  decide (scope.kind = .function) && !scope.isCoroutine && decide (scope.names.lookup (".0" : Str) = some NameKind.local) && scope.names.all fun y => !decide (y.2 = .cell) && (!decide (y.2 = .free) || decide (sc.names.lookup y.1 = some .cell) || decide (sc.names.lookup y.1 = some .free)) && (!decide (y.2 = .local) || !decide (y.1 ∈ N))
theorem gn_by {N : List Str} {sc scope : Scope} (h : gnB N sc scope = true) : GN N sc scope := by
  unfold gnB at h
  simp only [Bool.and_eq_true, Bool.or_eq_true, Bool.not_eq_true', decide_eq_true_eq, decide_eq_false_iff_not, List.all_eq_true] at h
  obtain ⟨⟨⟨h1, h2⟩, h3⟩, h4⟩ := h
  refine ⟨h1, h2, fun y hy => (h4 y hy).1.1, h3, fun y hy e => ?_, fun y hy e => ?_⟩
  · rcases (h4 y hy).1.2 with (z | z) | z
    · exact absurd e z
    · exact .inl z
    · exact .inr z
  · rcases (h4 y hy).2 with z | z
    · exact absurd e z
    · exact z
theorem GN.has {X : Cx} {scope : Scope} (S : GN X.N X.env.scope scope) (ok : X.Ok) : ∀ y ∈ scope.names, y.2 = .free → ∃ c, X.env.cells.lookup y.1 = some c := fun y hy e => by
  rcases S.free y hy e with k | k
  · exact ok.has _ (.inl k)
  · exact ok.has _ (.inr k)
abbrev gEnv (X : Cx) (scope : Scope) (C : Addr) (cd : Value) : PySem.Env := genEnv scope (cloFrom X.env.cells scope.names []) C cd builtinsNs X.env
/-- the context of the generator's frame -/
def gCx (X : Cx) (A : Around) (s : Shared) (H : Hp) (scope : Scope) (cd : Value) (fp : List Addr) (x0 x1 : Str) (gp : Addr × Obj) : Cx where
  prog := X.prog
  w := X.w
  K := X.K
  mg := X.mg
  base := X.base
  A := A.deeper (gEnv X scope s.heap.objs.size cd)
  N := x0 :: x1 :: X.N
  s_0 := s
  H_0 := H
  env := gEnv X scope s.heap.objs.size cd
  outer := X.stack
  stack := gEnv X scope s.heap.objs.size cd :: X.stack
  ex := fp
  fn := fun _ => false
  calm := true
  pn := [gp]
  xe := fun _ _ => False
section
variable {X : Cx} {pins : List (Addr × Obj)} {σ : L2.St} {H : Hp} {s : Shared} {A : Around} {scope : Scope} {cd : Value} {fp : List Addr} {x0 x1 : Str} {gp : Addr × Obj}
theorem g_start {h' : Heap} {tk : Nat} {gs : Array GenState} {m : Str → Option Value} (I : Inv X pins σ H s) (S : GN X.N X.env.scope scope) (hd : A.handled = none) (hfr : A.frames = some X.stack) (hfp : ∀ b ∈ fp, FpOk X pins H b ∧ b < s.heap.objs.size)
    (hns : h'.Ns s.heap.objs.size m) (kp : ∀ b o, s.heap.get? b = some o → h'.get? b = some o) (hg : AllBare gs) (hgp : h'.get? gp.1 = some gp.2 ∧ s.heap.objs.size < gp.1 ∧ ∀ v, gp.2.data ≠ .cell v) :
    Inv (gCx X A s H scope cd fp x0 x1 gp) [] (none :: none :: σ) H { s with heap := h', gens := gs, toks := tk } := by
  have hfree := S.has I.ok
  have cm : ∀ {y c}, (cloFrom X.env.cells scope.names []).lookup y = some c → X.env.cells.lookup y = some c := fun {y c} e => by
    rcases cloFrom_mem (PySem.mem_of_lookup e) with hm | ⟨h1, h2⟩
    · cases hm
    · obtain ⟨c1, hc⟩ := hfree _ h1 rfl
      have hc : X.env.cells.lookup y = some c1 := hc
      have e2 : c = c1 := by
        rw [h2, hc] <;> rfl
      rw [e2]
      exact hc
  have look : ∀ {y}, scope.names.lookup y = some .free → ∃ c, (cloFrom X.env.cells scope.names []).lookup y = some c := fun {y} hl => mem_lookup (cloFrom_has (cells := X.env.cells) (acc := []) (show (y, NameKind.free) ∈ scope.names from PySem.mem_of_lookup hl))
  have e0 := I.env0
  refine ⟨⟨I.ok.mod, S.kind, I.ok.glob, rfl, Nat.le_refl _, fun y z c e1 e2 => I.ok.inj y z c (cm e1) (cm e2), fun y hy => ?_, fun y c z _ => ?_, fun _ => hd, Around.frames_deeper hfr, .inr ⟨rfl, rfl⟩, fun b hb => ⟨Nat.ne_of_lt (hfp b hb).2, fun y c e => (hfp b hb).1.2.2.2.2.1 y c (cm e)⟩, I.bs, Nat.le_trans I.ok.bsz I.sz, fun b o e hb => ?_,
      fun b hb hm => ?_, I.stack, I.stkFree⟩,
    rfl, hg, Un.kept kp, ⟨m, hns, fun i y v e1 e2 e3 => ?_⟩, fun y c e => ?_, I.hok.fresh (Nat.le_refl _), fun y c e => I.freeC y c (cm e), fun q hq => ?_, I.hok.kept kp, ?_⟩
  · have hy : scope.names.lookup y = some .cell ∨ scope.names.lookup y = some .free := hy
    rcases hy with hy | hy
    · exact absurd rfl (S.cell _ (PySem.mem_of_lookup hy))
    · exact look hy
  · have z : false = true := z
    cases z
  · have hb' : b ∈ fp := hb
    rcases (hfp b hb').1.2.2.2.1 with z | z
    · exact I.ok.noex b o e z
    · exact absurd (Nat.lt_of_lt_of_le (Heap.lt_size e) (Nat.le_trans I.ok.bsz z)) (Nat.lt_irrefl _)
  · have hb' : b ∈ fp := hb
    rcases List.mem_cons.mp (I.stkSub b hm) with z | z
    · exact (hfp b hb').1.2.1 z
    · exact (hfp b hb').1.2.2.1 z
  · match i, e1, e2 with
    | 0, e1, e2 => cases e2
    | 1, e1, e2 => cases e2
    | i + 2, e1, e2 =>
      have e1 : X.N[i]? = some y := e1
      have e2 : σ[i]? = some (some v) := e2
      have e3 : Vis scope y := e3
      rcases e3 with k | k | k
      · exact absurd (List.mem_of_getElem? e1) (S.loc _ (PySem.mem_of_lookup k) rfl)
      · exact absurd rfl (S.cell _ (PySem.mem_of_lookup k))
      · obtain ⟨mm, hn, hl⟩ := I.loc
        have hvis : Vis X.env.scope y := (S.free _ (PySem.mem_of_lookup k) rfl).elim (fun k => .inr (.inl k)) (fun k => .inr (.inr k))
        obtain ⟨w', r, q⟩ := hl i y v e1 e2 hvis
        obtain ⟨c2, h2⟩ := look k
        have c1 := cm h2
        refine ⟨w', r, .inr ⟨.inr k, c2, h2, ?_⟩⟩
        rcases q with ⟨k', _⟩ | ⟨_, c3, e', o, ho, hd⟩
        · have k' : X.env.scope.names.lookup y = some .local := k'
          rcases S.free _ (PySem.mem_of_lookup k) rfl with k2 | k2 <;> rw [show X.env.scope.names.lookup y = _ from k2] at k' <;> cases k'
        · rw [c1] at e'
          cases e'
          exact ⟨o, kp _ _ ho, hd⟩
  · obtain ⟨w', o, ho, hd⟩ := I.cell y c (cm e)
    exact ⟨w', o, kp _ _ ho, hd⟩
  · have hq : q = gp := by
      have z : q ∈ [gp] ++ ([] : List (Addr × Obj)) := hq
      simpa using z
    subst hq
    exact ⟨hgp.1, I.hok.fresh (Nat.le_of_lt hgp.2.1), Nat.ne_of_gt hgp.2.1, fun hm => by
      obtain ⟨_, o, ho, _⟩ := I.stack.mem hm
      exact absurd (Nat.lt_of_lt_of_le (Heap.lt_size ho) (Nat.le_of_lt hgp.2.1)) (Nat.lt_irrefl _), hgp.2.2⟩
  · show (none :: none :: σ).length = (x0 :: x1 :: X.N).length
    rw [List.length_cons, List.length_cons, List.length_cons, List.length_cons, I.len]
/-- back in the def -/
theorem g_end {σ' : L2.St} {H' : Hp} {s' : Shared} (I : Inv X pins σ H s) (hfp : ∀ b ∈ fp, FpOk X pins H b) (J : Inv (gCx X A s H scope cd fp x0 x1 gp) [] σ' H' s') : Inv X pins σ H' s' :=
  I.call' (ch := fp) J.os J.base J.hok J.bare fun b hb => ⟨(hfp b hb).2.2.2.1, (hfp b hb).2.1, (hfp b hb).2.2.2.2.1, (hfp b hb).2.2.2.2.2⟩
/-- all(..) draws the generator g -/
theorem all_draw {X' : Cx} {Qf Qt : Hp → Prop} {A : Around} {a : Addr} {g : Nat} {go : Obj} {R : Result → Shared → Prop} (hh : A.handled = none) (hroom : A.in1.depth < recursionLimit) (hP : X'.prog = X.prog) (hw : X'.w = X.w) (hgo : go.cls = .type "generator" ∧ (∃ nm qn, go.data = .fields #[.int g 0, nm, qn]) ∧ go.slots = #[]) (hpn : (a, go) ∈ X'.pn)
    (hf : ∀ σ' H' s', Inv X' [] σ' H' s' → Qf H' → R (.ok (.ret (.bool false))) s') (ht : ∀ σ' H' s', Inv X' [] σ' H' s' → Qt H' → R (.ok (.ret (.bool true))) s') :
    ∀ (n : Nat) (s : Shared) (gs : GenState), (∃ σ' H', Inv X' [] σ' H' s) → s.gens[g]? = some gs → gs.Goes (model X.prog X.w) A.in1.in1 (RB X' Qt) (YB X' Qf) n (.send .none) (s.setGen g .running) →
      codeAny (model X.prog X.w) A (.builtin "all.loop" ⟨[.ref a], []⟩) R s := by
  have wk : ∀ {σ1 : L2.St} {H1 : Hp} {s1 : Shared} {x : GenState}, Inv X' [] σ1 H1 s1 → x.bare = true → Woke s1 (s1.setGen g x) := fun {σ1 H1 s1 x} I1 hx => ⟨rfl, allBare_setGen I1.bare hx, fun _ _ e => e⟩
  intro n
  induction n using Nat.strongRecOn with
  | ind n ih =>
    intro s gs ⟨σ0, H0, I0⟩ hgs hG
    have isg : s.heap.IsGen a g := by
      obtain ⟨e1, ⟨nm, qn, e2⟩, e3⟩ := hgo
      exact ⟨go, nm, qn, (I0.pin _ (List.mem_append_left _ hpn)).1, e1, e2, e3⟩
    have hlt : g < s.gens.size := (Array.getElem?_eq_some_iff.mp hgs).1
    refine codeAny_builtin PySem.F.entry_all_loop ?_
    rw [Around.under_plainId PySem.F.plain_all_loop _]
    show wpAny _ A.in1 (pyNext (.ref a) >>= _) _ _ s
    refine wpAny_bind (GenW.wpAny_gsz (n := g + 1) hlt (wpAny_pyNext_genexpQ (P := fun _ _ s1 => ∃ (σ1 : L2.St) (H1 : Hp), Inv X' [] σ1 H1 s1 ∧ Qt H1) hh I0.nolimit hroom isg hgs hG (fun v s1 gs' hb hv hsz => ?_) fun s1 ⟨σ1, H1, I1, q1⟩ h' hk _ => ?_))
    · obtain ⟨b, σ1, H1, e, I1, qf, qt⟩ := hv
      subst e
      have hsz : g < s1.gens.size := by
        have z : g + 1 ≤ (s1.setGen g gs').gens.size := hsz
        rw [GenW.setGen_size] at z
        exact z
      refine wpAny_bind (wpAny_holding (wpAny_truthy_bool ?_))
      refine wpAny_bind (wpAny_letGo ?_)
      cases b with
      | false =>
        simp only [Bool.false_eq_true, if_false]
        exact wpAny_bind (wpAny_rule (wpAny_pure (hf σ1 H1 _ ((wk I1 hb).inv I1) (qf rfl))))
      | true =>
        simp only [if_true]
        have ww : Woke s1 ((s1.setGen g gs').setGen g .running) := ⟨rfl, allBare_setGen (allBare_setGen I1.bare hb) rfl, fun _ _ e => e⟩
        have q := qt rfl _ ww
        cases n with
        | zero => exact q.elim
        | succ n => exact wpAny_pure ⟨plainId_quiet PySem.F.plain_all_loop _, ih n (Nat.lt_succ_self n) _ gs' ⟨σ1, H1, (wk I1 hb).inv I1⟩ (setGen_at hsz) q⟩
    · have w2 : Woke s1 { s1.setGen g .finished with heap := h' } := ⟨rfl, allBare_setGen I1.bare rfl, hk⟩
      exact wpAny_bind (wpAny_rule (wpAny_pure (ht σ1 H1 _ (w2.inv I1) q1)))
end
end FS
set_option Elab.async false
set_option linter.all false
set_option maxRecDepth 100000
set_option maxHeartbeats 2000000
/-! FsGc4: all(.. for .. in .. for .. in ..). -/
namespace FS
open PySem PySem.Spec PyProof.Rows L2 GenW
open LamX (TabS Tabs ExtN CodeO TabB)
def tAll2 (T : List (Addr × Str)) (wi : TI) (rest : Hp → It → L2.St → Hp → (Hp → Prop) → (Hp → Prop) → Prop) : TE := fun σ H Q => wi σ H fun J H1 => Tabs T H1 ∧ ∀ H2, ExtN H1 H2 → Tabs T H2 → rest H2 J σ H2 (fun H => Q (.bl false) H) (fun H => Q (.bl true) H)
section
variable {X : Cx} {T : List (Addr × Str)} {c P : Addr} {elt t0 i0 t1 i1 : Expr} {gpos pos p1 : Pos} {scope : Scope} {x0 x1 : Str} {k : Nat} {wi : TI} {rest : Hp → It → L2.St → Hp → (Hp → Prop) → (Hp → Prop) → Prop}
theorem pe_all2 (hmT : (P, X.env.qual ++ "<genexpr>") ∈ T) (hu : ∀ p ∈ T, p.1 = P → p.2 = X.env.qual ++ "<genexpr>") (TB : TabB X.base X.mg c P) (hr : Room (k + 3) X.A) (hm : X.mg "all" = none) (S : GN X.N X.env.scope scope) (hi : PI X t0 i0 wi)
    (hbody : ∀ (H2 : Hp) (J : It) (σ : L2.St) (Qf Qt : Hp → Prop), rest H2 J σ H2 Qf Qt → ∃ (g : TG) (wi1 : TI) (g1 : TG) (te : TE) (B : Nat) (W : Nat → Nat → L2.St → Hp → Prop) (m : Nat), W 0 m (none :: none :: σ) H2 ∧ Out2 g wi1 g1 te B Qf Qt J W ∧
      ∀ (A : Around) (s : Shared) (cd : Value) (fp : List Addr) (gp : Addr × Obj), Room k (A.deeper (gEnv X scope s.heap.objs.size cd)) → PG (gCx X A s H2 scope cd fp x0 x1 gp) t0 g ∧ PI (gCx X A s H2 scope cd fp x0 x1 gp) t1 i1 wi1 ∧ PG (gCx X A s H2 scope cd fp x0 x1 gp) t1 g1 ∧ PE (gCx X A s H2 scope cd fp x0 x1 gp) elt te)
    (hcode : X.env.code = .ref c := by rfl) (hg : Gl X "all" := by rfl) (hs : ∀ v, genFold i0 X.env v = pure v := by intro _; rfl) (hs1 : ∀ env v, foldedSetIterable i1 env v = pure v := by intro _ _; rfl)
    (he : starEach [GE2 elt t0 i0 t1 i1 scope gpos] X.env = (false, eval (GE2 elt t0 i0 t1 i1 scope gpos) X.env) :: starEach [] X.env := by rfl) :
    PE X (.Call (.Name "all" p1) [GE2 elt t0 i0 t1 i1 scope gpos] [] pos) (tAll2 T wi rest) := by
  refine ⟨fun pins s σ H Q I h => ?_⟩
  refine wpAny_Call_Name_kw (ld_blt (u := .builtin "all") I hg hm (by decide +kernel) ?_)
  refine PyProof.Rows.callWith_builtin1 ?_ he (by rfl)
  rw [he]
  show wpAny _ _ (spliced ((false, eval (GE2 elt t0 i0 t1 i1 scope gpos) X.env) :: backTo pos (starEach [] X.env))) _ _ s
  refine Calls.spliced_cons ?_
  refine ge2_make S.co (closure_ok (S.has I.ok)) S.cell S.dot S.kind (by have := hr.dp; omega) ?_ hs
  refine thn (hi.run pins s σ H _ I h) fun xv s1 h1 => thn h1 fun iv s2 ⟨it, fp, tn, J, H2, e, I2, T0, st2, f2, hT2, q⟩ => ?_
  subst e
  refine ⟨I2.nolimit, gen_code TB hcode hmT hu I2 hT2 fun cd s3 H3 ex T3 I3 kp kn h' hn hsb => ?_⟩
  obtain ⟨g, wi1, g1, te, B, W, m, w0, turn, hb⟩ := hbody H3 J σ _ _ (q H3 ex T3)
  refine Calls.spliced_nil ?_
  have hsz : h'.objs.size = s3.heap.objs.size + 1 := by rw [hsb.1, Heap.size_push]
  have keep : ∀ b o, s3.heap.get? b = some o → h'.get? b = some o := fun b o e => hsb.extBut b o (Nat.ne_of_lt (Heap.lt_size e)) (Heap.get?_push_of_some _ e)
  generalize hgo : ({ cls := .type "generator", data := .fields #[.int s3.gens.size 0, .str "<genexpr>" (s3.toks + 1), .str (X.env.qual ++ "<genexpr>") (s3.toks + 1 + 1)] } : Obj) = go
  have keep5 : ∀ b o, s3.heap.get? b = some o → (h'.push go).get? b = some o := fun b o e => Heap.get?_push_of_some _ (keep b o e)
  have nP : ∀ b, H2 b = none → b ≠ P := fun b e z => by
    obtain ⟨tabs, hP, _⟩ := hT2 _ hmT
    rw [z, hP] at e
    cases e
  have fp2 : ∀ b ∈ fp, ∃ o, s2.heap.get? b = some o := fun b hb => (T0.obj _ _ st2 b hb).imp fun _ h => h.1
  have st3 : tn 0 s3.heap := T0.keep _ _ _ st2 fun b hb o e => kp b o (nP b (f2 b hb).1) e
  have f3 : ∀ b ∈ fp, FpOk X pins H3 b ∧ b < s3.heap.objs.size := fun b hb => by
    obtain ⟨o, e, hcell⟩ := T0.obj _ _ st3 b hb
    obtain ⟨o2, e2, _⟩ := T0.obj _ _ st2 b hb
    exact ⟨⟨kn b (Heap.lt_size e2) (f2 b hb).1, (f2 b hb).2⟩, Heap.lt_size e⟩
  have hfr : X.A.in1.in1.frames = some X.stack := I.ok.frames
  have hgs : (h'.push go).get? h'.objs.size = some go := by
    rw [← hgo]
    exact Heap.get?_push_size _ rfl
  have hgb : AllBare (s3.gens.push (.fresh (.compStart (GE2 elt t0 i0 t1 i1 scope gpos) 0 (.ref it) .none (gEnv X scope s3.heap.objs.size cd)))) := I3.bare.push rfl
  have I5 := g_start (tk := s3.toks + 1 + 1 + 1) (cd := cd) (x0 := x0) (x1 := x1) (gp := (h'.objs.size, go)) (A := X.A.in1.in1) (gs := s3.gens.push (.fresh (.compStart (GE2 elt t0 i0 t1 i1 scope gpos) 0 (.ref it) .none (gEnv X scope s3.heap.objs.size cd)))) I3 S hr.hd hfr f3 (hn.push go) keep5 hgb ⟨hgs, by rw [hsz]; exact Nat.lt_succ_self _, fun v e => by rw [← hgo] at e; cases e⟩
  have hroom : Room k (X.A.in1.in1.deeper (gEnv X scope s3.heap.objs.size cd)) := ((hr.in1.in1.deeper _).mono (Nat.le_refl _))
  obtain ⟨pg0, pi1, pg1, pe⟩ := hb X.A.in1.in1 s3 cd fp (h'.objs.size, go) hroom
  generalize hX : gCx X X.A.in1.in1 s3 H3 scope cd fp x0 x1 (h'.objs.size, go) = X' at I5 pg0 pi1 pg1 pe
  have hXe : X'.env = gEnv X scope s3.heap.objs.size cd := by rw [← hX]; rfl
  have isg : (h'.push go).IsGen h'.objs.size s3.gens.size := by
    rw [← hgo]
    exact ⟨_, _, _, Heap.get?_push_size _ rfl, rfl, rfl, rfl⟩
  refine call_function_tree PySem.F.kind_all PySem.F.plain_all PySem.F.entry_all (PySem.F.args_all1 _) ?_
  unfold Builtin.«all»
  refine wpAny_bind (m := oneArg "all" _) (wpAny_pure ?_)
  refine wpAny_bind (wpAny_pyIter_gen (s := { s3 with heap := h'.push go, gens := _, toks := _ }) isg ?_)
  refine wpAny_pure ⟨plainId_quiet PySem.F.plain_all_loop _, ?_⟩
  refine all_draw (X := X) (X' := X') (Qf := fun H => Q (.bl false) H) (Qt := fun H => Q (.bl true) H) (A := X.A) (g := s3.gens.size) (go := go) hr.hd (by have := hr.dp; show X.A.depth < _; omega) (by rw [← hX]; rfl) (by rw [← hX]; rfl) (by rw [← hgo]; exact ⟨rfl, ⟨_, _, rfl⟩, rfl⟩) (by rw [← hX]; exact List.mem_singleton.mpr rfl)
    (fun σ' H' s' J' q' => ?_) (fun σ' H' s' J' q' => ?_) ((B + 1) * m) _ _ ⟨_, _, I5⟩ (Array.getElem?_push_size ..) ⟨rfl, ?_⟩
  · rw [← hX] at J'
    exact ⟨.bl false, H', g_end I3 (fun b hb => (f3 b hb).1) J', rfl, q'⟩
  · rw [← hX] at J'
    exact ⟨.bl true, H', g_end I3 (fun b hb => (f3 b hb).1) J', rfl, q'⟩
  · have wk : Woke { s3 with heap := h'.push go, gens := s3.gens.push (.fresh (.compStart (GE2 elt t0 i0 t1 i1 scope gpos) 0 (.ref it) .none (gEnv X scope s3.heap.objs.size cd))), toks := s3.toks + 1 + 1 + 1 } (({ s3 with heap := h'.push go, gens := s3.gens.push (.fresh (.compStart (GE2 elt t0 i0 t1 i1 scope gpos) 0 (.ref it) .none (gEnv X scope s3.heap.objs.size cd))), toks := s3.toks + 1 + 1 + 1 } : Shared).setGen s3.gens.size .running) := ⟨rfl, allBare_setGen hgb rfl, fun _ _ e => e⟩
    have I6 := wk.inv I5
    have st6 : tn 0 (h'.push go) := T0.keep _ _ _ st3 fun b _ o e => keep5 b o e
    have hXp : X'.prog = X.prog ∧ X'.w = X.w ∧ X'.K = X.K ∧ X'.calm = true := by rw [← hX]; exact ⟨rfl, rfl, rfl, rfl⟩
    obtain ⟨e1, e2, e3, e4⟩ := hXp
    rw [← e1, ← e2]
    generalize hst : (({ s3 with heap := h'.push go, gens := s3.gens.push (.fresh (.compStart (GE2 elt t0 i0 t1 i1 scope gpos) 0 (.ref it) .none (gEnv X scope s3.heap.objs.size cd))), toks := s3.toks + 1 + 1 + 1 } : Shared).setGen s3.gens.size .running) = st at I6 ⊢
    have hsth : st.heap = h'.push go := by rw [← hst]; rfl
    have hXe' : genEnv scope (cloFrom X.env.cells scope.names []) s3.heap.objs.size cd builtinsNs X.env = X'.env := hXe.symm
    rw [hXe']
    have st7 : tn 0 st.heap := by rw [hsth]; exact st6
    clear hst
    refine seg_cst (X := X') (h0 := st.heap) (fun A' s' Q' E' e h => ?_) rfl (.inl rfl) ?_
    · rw [e1, e2]
      exact T0.self A' 0 s' Q' E' (by rw [e]; exact st7) h
    · refine seg_out2 (X := X') (W := W) (B := B) ?_ e4 ?_ ?_ pg0 pi1 pg1 pe (hs1 _) (by rw [e1, e2, e3]; exact T0) ?_ turn m 0 _ _ _ _ H3 (Nat.le_refl _) I6 st7 (fun b hb => (f3 b hb).1.1) w0
      · rw [← hX]
        rfl
      · rw [← hX]
        exact fun _ _ h => h
      · rw [hXe]
        exact S.co
      · intro b hb H' hn'
        obtain ⟨⟨_, g1, g2, g3, g4, g5⟩, hl⟩ := f3 b hb
        rw [← hX]
        refine ⟨hn', Nat.ne_of_lt hl, fun hm => ?_, .inl hb, fun y c e => g4 y c ?_, fun p hp => ?_⟩
        · rcases List.mem_cons.mp (I3.stkSub b hm) with z | z
          · exact g1 z
          · exact g2 z
        · rcases cloFrom_mem (PySem.mem_of_lookup e) with hm | ⟨h1, h2⟩
          · cases hm
          · obtain ⟨c1, hc⟩ := S.has I3.ok _ h1 rfl
            have hc : X.env.cells.lookup y = some c1 := hc
            have e2 : c = c1 := by
              rw [h2, hc] <;> rfl
            rw [e2]
            exact hc
        · have hp' : p ∈ [(h'.objs.size, go)] ++ ([] : List (Addr × Obj)) := hp
          have hp2 : p = (h'.objs.size, go) := by simpa using hp'
          rw [hp2]
          show h'.objs.size ≠ b
          rw [hsz]
          exact Nat.ne_of_gt (Nat.lt_succ_of_lt hl)
end
end FS
set_option Elab.async false
set_option linter.all false
set_option maxRecDepth 100000
set_option maxHeartbeats 2000000
/-! FsGc5: all(.. for .. in .. for .. in ..) as data. -/
namespace FS
open PySem PySem.Spec PyProof.Rows L2 GenW
open LamX (TabS Tabs ExtN CodeO TabB)
def allIn (g1 : PV → Cd Unit) (de : Cd PV) (k : Cd Bool) : List PV → Cd Bool
  | [] => k
  | q :: qs => bnd (g1 q) fun _ => bnd de fun y => match y with
    | .bl true => allIn g1 de k qs
    | .bl false => ret false
    | _ => fun _ _ => .bad
def allOut (g0 : PV → Cd Unit) (d1 : Cd (List PV)) (g1 : PV → Cd Unit) (de : Cd PV) : List PV → Cd Bool
  | [] => ret true
  | p :: ps => bnd (g0 p) fun _ => bnd d1 fun qs => if qs.length ≤ 1024 then allIn g1 de (allOut g0 d1 g1 de ps) qs else fun _ _ => .bad
def dAll2 (d0 : Cd (List PV)) (g0 : PV → Cd Unit) (d1 : Cd (List PV)) (g1 : PV → Cd Unit) (de : Cd PV) : Cd PV := bnd d0 fun ps => fun e s => match allOut g0 d1 g1 de ps (.none :: .none :: hide e) s with
  | .ok b _ s' => .ok (.bl b) e s'
  | _ => .bad
/-- what is wanted of the answer -/
def FB (K : PySem.W.Frag) (G0 : Wd) (Qf Qt : Hp → Prop) : Wd → Out Bool → Prop := fun G o => match o with
  | .ok b _ S => ∀ G', Ent G0 G' → Mon G G' → RepS K G' S → Sure G' → (if b = true then Qt G'.H else Qf G'.H)
  | _ => False
abbrev zN (X : Cx) (G : Wd) : Zx := ⟨X.K, X.mg, G, fun _ _ _ _ => False⟩
theorem lwFB {X : Cx} {G0 : Wd} {Qf Qt : Hp → Prop} : Lw (zN X G0) (FB X.K G0 Qf Qt) := ⟨fun G G1 o h m => by
  cases o with
  | ok b e S => exact fun G' en mo => h G' en (m.trans mo)
  | raise c w e S => exact h
  | bad => exact h, fun _ _ _ _ _ h => h.elim, fun _ h => h⟩
theorem at_cons {K : PySem.W.Frag} {G0 G : Wd} {S : Stt} {env : Env} {σ : L2.St} (A : At K G0 G S env σ) : At K G0 G S (.none :: env) (none :: σ) := by
  have get : ∀ (i : Nat) (x : Slot), (Slot.none :: env)[i]? = some x → x = .none ∨ ∃ j, i = j + 1 ∧ env[j]? = some x := fun i x h => by
    cases i with
    | zero => exact .inl (Option.some.inj h).symm
    | succ j => exact .inr ⟨j, rfl, by simpa using h⟩
  have own : ∀ i, IsOwn (Slot.none :: env) i → ∃ j, i = j + 1 ∧ IsOwn env j := fun i ⟨xs, h⟩ => by
    rcases get i _ h with e | ⟨j, rfl, h⟩
    · cases e
    · exact ⟨j, rfl, xs, h⟩
  refine ⟨A.st, ⟨by simp [A.en.len], fun i p h => ?_, fun i xs h => ?_, fun i a d w h => ?_, fun i j a hi hj e1 e2 => ?_⟩, A.ent, fun i a h e => ?_, A.sure⟩
  · rcases get i _ h with e | ⟨j, rfl, h⟩
    · cases e
    · exact A.en.val j p h
  · rcases get i _ h with e | ⟨j, rfl, h⟩
    · cases e
    · exact A.en.own j xs h
  · rcases get i _ h with e | ⟨j, rfl, h⟩
    · cases e
    · exact A.en.exc j a d w h
  · obtain ⟨i', rfl, hi⟩ := own i hi
    obtain ⟨j', rfl, hj⟩ := own j hj
    rw [A.en.dis i' j' a hi hj e1 e2]
  · obtain ⟨i', rfl, hi⟩ := own i h
    exact A.mine i' a hi e
theorem takes_no {X : Cx} : Takes X (fun _ _ _ _ => False) := fun u s' ⟨_, _, _, _, _, _, _, _, _, _, _, _, _, _, _, _, w⟩ => w.elim
section
variable {X : Cx} {G2 : Wd} {Qf Qt : Hp → Prop} {g0 g1 : PV → Cd Unit} {d1 : Cd (List PV)} {de : Cd PV}
theorem all_in {k : Cd Bool} {J : It} {G3 : Wd} {qs : List PV} {env : Env} {S : Stt} {σ : L2.St} (M3 : Mon G2 G3) (en : Enum X.K J G3 qs) (A : At X.K G2 G3 S env σ) (hl : qs.length ≤ 1024) (P : FB X.K G2 Qf Qt G3 (allIn g1 de k qs env S)) :
    ∃ W : Nat → Nat → L2.St → Hp → Prop, (∃ m, m ≤ 1024 ∧ W 0 m σ G3.H) ∧ In2 (RG (zN X G2) g1) (RE (zN X G2) de) Qf (fun σ H => ∃ G env S, G.H = H ∧ Mon G2 G ∧ At X.K G2 G S env σ ∧ FB X.K G2 Qf Qt G (k env S)) J W := by
  refine ⟨fun j m σ H => m = qs.length - j ∧ j ≤ qs.length ∧ ∃ G env S, G.H = H ∧ Mon G3 G ∧ At X.K G2 G S env σ ∧ FB X.K G2 Qf Qt G (allIn g1 de k (qs.drop j) env S), ⟨qs.length, hl, by simp, Nat.zero_le _, G3, env, S, rfl, Mon.refl _, A, by simpa using P⟩, ?_⟩
  rintro j m σ H ⟨rfl, hj, G, env, S, rfl, M, A, P⟩
  by_cases hlt : j < qs.length
  · have e : qs.drop j = qs[j] :: qs.drop (j + 1) := List.drop_eq_getElem_cons hlt
    rw [e] at P
    obtain ⟨q1, q2⟩ := en.go j qs[j] G M A.sure (by simp [hlt])
    refine .inr ⟨q1, by omega, fun σ' H' => ∃ G env S, G.H = H' ∧ Mon G3 G ∧ At X.K G2 G S env σ' ∧ FB X.K G2 Qf Qt G (allIn g1 de k (qs.drop (j + 1)) env S), fun σ' H' h => ⟨qs.length - (j + 1), by omega, rfl, hlt, h⟩, fun x H' y => ?_⟩
    obtain ⟨G5, rfl, x2, s2, r2⟩ := q2 x H' y
    have m2 := x2.mon A.sure
    refine toG (z := zN X G2) lwFB (A.ext x2 s2) r2 (lwFB.later _ _ _ P m2) fun env3 S3 σ3 G6 m3 A3 P3 => ?_
    refine toE (z := zN X G2) lwFB A3 P3 fun p env4 S4 v G7 m4 A4 r4 P4 => ?_
    cases p with
    | bl b =>
      cases r4
      refine ⟨b, rfl, fun hb => ?_, fun hb => ?_⟩
      · subst hb
        have q := P4 G7 A4.ent (Mon.refl _) A4.st A4.sure
        simpa using q
      · subst hb
        exact ⟨G7, env4, S4, rfl, ((M.trans m2).trans m3).trans m4, A4, P4⟩
    | _ => exact P4.elim
  · have e : qs.drop j = [] := List.drop_eq_nil_of_le (by omega)
    rw [e] at P
    exact .inl ⟨en.stop j G M (by omega), G, env, S, rfl, M3.trans M, A, P⟩
theorem all_out {J : It} {ps : List PV} {env : Env} {S : Stt} {σ : L2.St} (en : Enum X.K J G2 ps) (A : At X.K G2 G2 S env σ) (P : FB X.K G2 Qf Qt G2 (allOut g0 d1 g1 de ps env S)) :
    ∃ (W : Nat → Nat → L2.St → Hp → Prop) (m : Nat), W 0 m σ G2.H ∧ Out2 (RG (zN X G2) g0) (RI (zN X G2) d1) (RG (zN X G2) g1) (RE (zN X G2) de) 1024 Qf Qt J W := by
  refine ⟨fun i m σ H => m = ps.length - i ∧ i ≤ ps.length ∧ ∃ G env S, G.H = H ∧ Mon G2 G ∧ At X.K G2 G S env σ ∧ FB X.K G2 Qf Qt G (allOut g0 d1 g1 de (ps.drop i) env S), ps.length, ⟨by simp, Nat.zero_le _, G2, env, S, rfl, Mon.refl _, A, by simpa using P⟩, ?_⟩
  rintro i m σ H ⟨rfl, hi, G, env, S, rfl, M, A, P⟩
  by_cases hlt : i < ps.length
  · have e : ps.drop i = ps[i] :: ps.drop (i + 1) := List.drop_eq_getElem_cons hlt
    rw [e] at P
    obtain ⟨q1, q2⟩ := en.go i ps[i] G M A.sure (by simp [hlt])
    refine .inr ⟨q1, by omega, fun σ' H' => ∃ G env S, G.H = H' ∧ Mon G2 G ∧ At X.K G2 G S env σ' ∧ FB X.K G2 Qf Qt G (allOut g0 d1 g1 de (ps.drop (i + 1)) env S), fun σ' H' h => ⟨ps.length - (i + 1), by omega, rfl, hlt, h⟩, fun x H' y => ?_⟩
    obtain ⟨G5, rfl, x2, s2, r2⟩ := q2 x H' y
    have m2 := x2.mon A.sure
    refine toG (z := zN X G2) lwFB (A.ext x2 s2) r2 (lwFB.later _ _ _ P m2) fun env3 S3 σ3 G6 m3 A3 P3 => ?_
    refine toI (z := zN X G2) lwFB A3 P3 fun qs env4 S4 J1 G7 m4 A4 en4 P4 => ?_
    by_cases hq : qs.length ≤ 1024
    · rw [if_pos hq] at P4
      exact all_in (((M.trans m2).trans m3).trans m4) en4 A4 hq P4
    · rw [if_neg hq] at P4
      exact P4.elim
  · have e : ps.drop i = [] := List.drop_eq_nil_of_le (by omega)
    rw [e] at P
    have q := P G A.ent (Mon.refl _) A.st A.sure
    exact .inl ⟨en.stop i G M (by omega), by simpa using q⟩
end
section
variable {X : Cx} {z : Zx} {T : List (Addr × Str)} {c P : Addr} {elt t0 i0 t1 i1 : Expr} {gpos pos p1 : Pos} {scope : Scope} {x0 x1 : Str} {k j : Nat} {g0 g1 : PV → Cd Unit} {d0 d1 : Cd (List PV)} {de : Cd PV}
theorem me_all2 (x0 x1 : Str) (hT : z.G0.T = T ∧ Tabs T z.G0.H) (hmT : (P, X.env.qual ++ "<genexpr>") ∈ T) (hu : ∀ p ∈ T, p.1 = P → p.2 = X.env.qual ++ "<genexpr>") (TB : TabB X.base X.mg c P) (hr : Room j X.A) (hm : X.mg "all" = none) {N : List Str} {sc : Scope} (S : gnB N sc scope = true) (hi : MI X z t0 i0 d0)
    (hbody : ∀ (A : Around) (s : Shared) (H : Hp) (cd : Value) (fp : List Addr) (gp : Addr × Obj) (G : Wd), (G.T = T ∧ Tabs T G.H) → Room k (A.deeper (gEnv X scope s.heap.objs.size cd)) →
      MG (gCx X A s H scope cd fp x0 x1 gp) (zN X G) t0 g0 ∧ MI (gCx X A s H scope cd fp x0 x1 gp) (zN X G) t1 i1 d1 ∧ MG (gCx X A s H scope cd fp x0 x1 gp) (zN X G) t1 g1 ∧ ME (gCx X A s H scope cd fp x0 x1 gp) (zN X G) elt de)
    (hkj : k + 3 ≤ j := by decide) (hK : z.K = X.K := by rfl) (hXN : X.N = N := by rfl) (hsc : X.env.scope = sc := by rfl) (hcode : X.env.code = .ref c := by rfl) (hg : Gl X "all" := by rfl) (hs : ∀ v, genFold i0 X.env v = pure v := by intro _; rfl) (hs1 : ∀ env v, foldedSetIterable i1 env v = pure v := by intro _ _; rfl)
    (he : starEach [GE2 elt t0 i0 t1 i1 scope gpos] X.env = (false, eval (GE2 elt t0 i0 t1 i1 scope gpos) X.env) :: starEach [] X.env := by rfl) :
    ME X z (.Call (.Name "all" p1) [GE2 elt t0 i0 t1 i1 scope gpos] [] pos) (dAll2 d0 g0 d1 g1 de) := by
  have S' : GN X.N X.env.scope scope := gn_by (by rw [hXN, hsc]; exact S)
  refine PE.imp (pe_all2 (x0 := x0) (x1 := x1) (k := k) (T := T) (rest := fun H2 J σ H Qf Qt => H = H2 ∧ ∃ (G2 : Wd) (env : Env) (S : Stt) (ps : List PV), G2.H = H2 ∧ (G2.T = T ∧ Tabs T G2.H) ∧ At X.K G2 G2 S env (none :: none :: σ) ∧ Enum X.K J G2 ps ∧ FB X.K G2 Qf Qt G2 (allOut g0 d1 g1 de ps env S))
    hmT hu TB (hr.mono hkj) hm S' hi (fun H2 J σ Qf Qt ⟨_, G2, env, S, ps, e, hT2, A, en, P⟩ => ?_) hcode hg hs hs1 he) fun σ H Q ⟨G, env, S, e, A, P⟩ => ?_
  · subst e
    obtain ⟨W, m, w, o⟩ := all_out en A P
    exact ⟨_, _, _, _, _, W, m, w, o, fun A' s cd fp gp hrm => hbody A' s G2.H cd fp gp G2 hT2 hrm⟩
  · subst e
    refine toI lwE A P fun ps env1 S1 J G1 m1 A1 en P1 => ?_
    have hT1 : Tabs T G1.H := by
      have w := A1.ent.tb (by rw [hT.1]; exact hT.2)
      rw [hT.1] at w
      exact w
    refine ⟨hT1, fun H2 ex T2 => ⟨rfl, ?_⟩⟩
    obtain ⟨E2, M2, A2⟩ := A1.tabN hT.1 ex T2
    have en2 : Enum X.K J ⟨G1.m, G1.fz, H2, G1.T⟩ ps := by
      rw [← hK]
      exact ⟨fun i G' m => en.stop i G' (M2.trans m), fun i p G' m => en.go i p G' (M2.trans m)⟩
    refine ⟨⟨G1.m, G1.fz, H2, G1.T⟩, .none :: .none :: hide env1, S1, ps, rfl, ⟨A1.ent.T.trans hT.1, T2⟩, at_cons (at_cons (hide_rep (by rw [← hK]; exact A2.en) (Mon.refl _) (by rw [← hK]; exact A2.st) A2.sure)), en2, ?_⟩
    cases e : allOut g0 d1 g1 de ps (.none :: .none :: hide env1) S1 with
    | bad =>
      simp only [e] at P1
      exact P1.elim
    | raise cc w e1 s1 =>
      simp only [e] at P1
      exact P1.elim
    | ok b e1 s1 =>
      simp only [e] at P1
      intro G' en' mo st su
      have q := P1 (.bl b) G' (M2.trans mo) (A2.call en' mo (by rw [hK]; exact st) su) (.bl b)
      cases b with
      | true => simpa using q
      | false => simpa using q
end
end FS
set_option Elab.async false
set_option linter.all false
set_option maxRecDepth 100000
set_option maxHeartbeats 2000000
/-! FsMet1: sorted({.. for .. in .. for .. in ..}), the machine's side. -/
namespace FS
open PySem PySem.Spec PyProof.Rows L2
end FS
set_option Elab.async false
set_option linter.all false
set_option maxRecDepth 100000
set_option maxHeartbeats 2000000
/-! FsMet2: sorted({x1 for x0 in e for x1 in x0}), rows of ints. -/
namespace FS
open PySem PySem.Spec PyProof.Rows L2
end FS
set_option Elab.async false
set_option linter.all false
set_option maxRecDepth 100000
set_option maxHeartbeats 2000000
/-! FsMet3: sorted({x1 for x0 in e for x1 in x0}) as data. -/
namespace FS
open PySem PySem.Spec PyProof.Rows L2
end FS
set_option Elab.async false
set_option linter.all false
set_option maxRecDepth 100000
set_option maxHeartbeats 2000000
/-! FsAug: max of a list of ints with a default; o[i] += e; a, b, c = (a new list), [], e. -/
namespace FS
open PySem PySem.Spec PyProof PyProof.Rows L2
/-! ### max(l, default=d) -/
section
variable {X : Cx} {z : Zx} {x : Str} {e e2 : Expr} {da db dv di : Cd PV} {p pos kpos p1 tpos : Pos}
/-! ### o[i] += e, o a list that its name alone holds -/
/-! ### a, b, c = (a new list), [], e -/
theorem Alone.later {G : Wd} {env : Env} {σ : L2.St} {a b : Addr} {vs : List V} {o : HO} (al : Alone z G env σ a vs) (hn : G.H b = none) : Alone z (G.fresh b o) env σ a vs := by
  have hb : a ≠ b := fun e => by
    have h := al.at_
    rw [e, hn] at h
    cases h
  exact ⟨(upd_ne hb).trans al.at_, al.nf, al.nm, al.n0, al.no⟩
end
end FS
set_option Elab.async false
set_option linter.all false
set_option maxRecDepth 100000
set_option maxHeartbeats 2000000
/-! FsUnl: a, b, .. = a list. -/
namespace FS
open PySem PySem.Spec PyProof.Rows L2
end FS
set_option Elab.async false
set_option linter.all false
set_option maxRecDepth 100000
set_option maxHeartbeats 2000000
/-! FsOwnIt: a comprehension over a list that its name alone holds. -/
namespace FS
open PySem PySem.Spec PyProof.Rows L2
end FS
set_option Elab.async false
set_option linter.all false
set_option maxRecDepth 100000
set_option maxHeartbeats 2000000
/-! FsRem: l.remove(x), x in l; a, b, c = (a new list), [], []. -/
namespace FS
open PySem PySem.Spec PyProof.Rows L2
end FS
set_option Elab.async false
set_option linter.all false
set_option maxRecDepth 100000
/-! FsWp2: rules for what FsOwn, FsEnum and FsZip add. -/
namespace FS
open PySem L2
section
variable {α β : Type} {e : Env} {s : Stt} {R : Pr} {Q : Pq PV} {QL : Pq (List PV)} {QS : Pq Flw} {i j : Nat}
theorem wp_lenO {xs : List PV} (h : e[i]? = some (.own xs)) (hq : Q (.int xs.length) e s) : Wp (dLenO i e s) Q R := by
  unfold dLenO
  rw [h]
  exact hq
theorem wp_lenV {p : PV} (h : e[i]? = some (.val p)) (hq : Wp (dFn fLen (dCons (dUse i) dNil) e s) Q R) : Wp (dLenO i e s) Q R := by
  unfold dLenO
  rw [h]
  exact hq
theorem wp_ixO {ys : List PV} {db : Cd PV} (h : e[i]? = some (.own ys)) (hq : Wp (db e s) (fun k e s => ∃ xs j w, e[i]? = some (.own xs) ∧ k = .int j ∧ atI xs j = some w ∧ Q w e s) R) : Wp (dIxO i db e s) Q R := by
  unfold dIxO
  simp only [h]
  refine wp_bnd (Wp.mono hq (fun k e1 s1 ⟨xs, j, w, h1, h2, h3, h4⟩ => ?_) fun _ _ _ _ h => h)
  subst h2
  simp only [h1, h3]
  exact h4
theorem wp_ixV {p : PV} {db : Cd PV} (h : e[i]? = some (.val p)) (hq : Wp (dOp pIx (dUse i) db e s) Q R) : Wp (dIxO i db e s) Q R := by
  unfold dIxO
  simp only [h]
  exact hq
theorem wp_inO {neg : Bool} {da : Cd PV} (hq : Wp (da e s) (fun p e s => (∃ xs w, e[i]? = some (.own xs) ∧ inL neg p xs = some w ∧ Q w e s) ∨ (∃ q w, e[i]? = some (.val q) ∧ (if neg then pNotInA s p q else pInA s p q) = some w ∧ Q w e s)) R) : Wp (dInO neg da i e s) Q R := by
  refine wp_bnd (Wp.mono hq (fun p e1 s1 h => ?_) fun _ _ _ _ h => h)
  rcases h with ⟨xs, w, h1, h2, h3⟩ | ⟨q, w, h1, h2, h3⟩
  · simp only [h1, h2]
    exact h3
  · simp only [h1, h2]
    exact h3
theorem wp_mulL {da db : Cd PV} (h : Wp (da e s) (fun p e s => Wp (db e s) (fun q e s => ∃ xs k, p = .lst xs ∧ q = .int k ∧ (k < 1048576 ∧ -1048576 < k ∧ xs.length * k.toNat ≤ sizeLine) ∧ QL (List.replicate k.toNat xs).flatten e s) R) R) : Wp (dMulL da db e s) QL R := by
  refine wp_bnd (Wp.mono h (fun p e1 s1 h1 => wp_bnd (Wp.mono h1 (fun q e2 s2 ⟨xs, k, h2, h3, h4, h5⟩ => ?_) fun _ _ _ _ h => h)) fun _ _ _ _ h => h)
  subst h2 h3
  simp only [if_pos h4]
  exact h5
theorem wp_catL {da db : Cd PV} (h : Wp (da e s) (fun p e s => Wp (db e s) (fun q e s => ∃ xs ys, p = .lst xs ∧ q = .lst ys ∧ xs.length + ys.length ≤ sizeLine ∧ QL (xs ++ ys) e s) R) R) : Wp (dCatL da db e s) QL R := by
  refine wp_bnd (Wp.mono h (fun p e1 s1 h1 => wp_bnd (Wp.mono h1 (fun q e2 s2 ⟨xs, k, h2, h3, h4, h5⟩ => ?_) fun _ _ _ _ h => h)) fun _ _ _ _ h => h)
  subst h2 h3
  simp only [if_pos h4]
  exact h5
theorem wp_cutL {d : Cd PV} {l h' : Cd (Option Int)} (h : Wp (d e s) (fun p e s => Wp (l e s) (fun l e s => Wp (h' e s) (fun u e s => ∃ xs, p = .lst xs ∧ QL (cutP xs l u) e s) R) R) R) : Wp (dCutL d l h' e s) QL R := by
  refine wp_bnd (Wp.mono h (fun p e1 s1 h1 => wp_bnd (Wp.mono h1 (fun l e2 s2 h2 => wp_bnd (Wp.mono h2 (fun u e3 s3 ⟨xs, h3, h4⟩ => ?_) fun _ _ _ _ h => h)) fun _ _ _ _ h => h)) fun _ _ _ _ h => h)
  subst h3
  exact h4
theorem wp_rngL {d : Cd (List PV)} (h : Wp (d e s) (fun ps e s => ∃ j, ps = [.int j] ∧ (okR j = true ∧ j ≤ 16777216) ∧ QL ((List.range j.toNat).map fun (i : Nat) => PV.int i) e s) R) : Wp (dRngL d e s) QL R := by
  refine wp_bnd (Wp.mono h (fun ps e1 s1 ⟨j, h1, h2, h3⟩ => ?_) fun _ _ _ _ h => h)
  subst h1
  simp only [if_pos h2]
  exact h3
theorem wp_ownNil {d : Cd (List PV)} (h : Wp (d e s) (fun xs e s => QS .next ((e.set i (.own xs)).set j (.own [])) s) R) : Wp (dOwnNil i j d e s) QS R := wp_bnd h
theorem wp_setNil {d : Cd PV} (h : Wp (d e s) (fun p e s => QS .next ((e.set i (.val p)).set j (.own [])) s) R) : Wp (dSetNil i j d e s) QS R := wp_bnd h
theorem wp_zipM {d : Cd (List PV)} {Q : Pq (List PV)} (h : Wp (d e s) (fun ps e s => ∃ xs, zipM ps = some xs ∧ Q xs e s) R) : Wp (dZipM d e s) Q R := wp_bnd (Wp.mono h (fun p e1 s1 ⟨xs, q, h1⟩ => wp_lift q h1) fun _ _ _ _ h => h)
theorem wp_enum {d : Cd (List PV)} {Q : Pq (List PV)} (h : Wp (d e s) (fun ps e s => ∃ xs, enumP ps = some xs ∧ Q xs e s) R) : Wp (dEnum d e s) Q R := wp_bnd (Wp.mono h (fun p e1 s1 ⟨xs, q, h1⟩ => wp_lift q h1) fun _ _ _ _ h => h)
theorem x_zipM {p q : PV} {xs ys : List PV} {Q : List PV → Prop} (h1 : itemsF p = some xs) (h2 : itemsF q = some ys) (h : Q ((xs.zip ys).map fun c => PV.tuz [c.1, c.2])) : ∃ zs, zipM [p, q] = some zs ∧ Q zs := ⟨_, by
  unfold zipM
  simp only [h1, h2], h⟩
theorem x_enum {p : PV} {xs : List PV} {Q : List PV → Prop} (h1 : itemsF p = some xs) (h : Q (enumL xs)) : ∃ zs, enumP [p] = some zs ∧ Q zs := ⟨_, by
  show (itemsF p).map enumL = _
  rw [h1]
  rfl, h⟩
theorem enumL_get {xs : List PV} {i : Nat} {p : PV} (h : (enumL xs)[i]? = some p) : ∃ x, xs[i]? = some x ∧ p = .tuz [.int i, x] := by
  unfold enumL at h
  rw [List.getElem?_map, List.getElem?_zipIdx] at h
  cases q : xs[i]? with
  | none => rw [q] at h; cases h
  | some x =>
    rw [q] at h
    simp only [Option.map_some, Nat.zero_add] at h
    exact ⟨x, rfl, (Option.some.inj h).symm⟩
theorem zip_get2 {xs ys : List PV} {i : Nat} {p : PV} (h : ((xs.zip ys).map fun c => PV.tuz [c.1, c.2])[i]? = some p) : ∃ x y, xs[i]? = some x ∧ ys[i]? = some y ∧ p = .tuz [x, y] := by
  rw [List.getElem?_map] at h
  cases q : (xs.zip ys)[i]? with
  | none => rw [q] at h; cases h
  | some c =>
    rw [q] at h
    obtain ⟨h1, h2⟩ := List.getElem?_zip_eq_some.mp q
    exact ⟨c.1, c.2, h1, h2, (Option.some.inj h).symm⟩
theorem x_rev {xs : List PV} {Q : PV → Prop} (h : Q (.tup xs.reverse)) : ∃ w, pRev (.tup xs) = some w ∧ Q w := ⟨_, rfl, h⟩
theorem x_revL {xs : List PV} {Q : PV → Prop} (h : Q (.lst xs.reverse)) : ∃ w, pRev (.lst xs) = some w ∧ Q w := ⟨_, rfl, h⟩
end
/-- what a place holds -/
def LkS (o : Option Slot) (K1 : PV → Prop) (K2 : List PV → Prop) : Prop := (∃ p, o = some (.val p) ∧ K1 p) ∨ ∃ xs, o = some (.own xs) ∧ K2 xs
theorem lks_v {o : Option Slot} {K1 : PV → Prop} {K2 : List PV → Prop} {p : PV} (h : o = some (.val p)) (k : K1 p) : LkS o K1 K2 := .inl ⟨p, h, k⟩
theorem lks_o {o : Option Slot} {K1 : PV → Prop} {K2 : List PV → Prop} {xs : List PV} (h : o = some (.own xs)) (k : K2 xs) : LkS o K1 K2 := .inr ⟨xs, h, k⟩
section
variable {e : Env} {s : Stt} {R : Pr} {Q : Pq PV} {i : Nat}
theorem wp_useL (h : LkS e[i]? (fun p => Q p e s) (fun xs => Q (.lst xs) (e.set i (.val (.lst xs))) s)) : Wp (dUse i e s) Q R := by
  rcases h with ⟨p, h1, h2⟩ | ⟨xs, h1, h2⟩
  · exact wp_use h1 h2
  · exact wp_useO h1 h2
theorem wp_lenL (h : LkS e[i]? (fun _ => Wp (dFn fLen (dCons (dUse i) dNil) e s) Q R) (fun xs => Q (.int xs.length) e s)) : Wp (dLenO i e s) Q R := by
  rcases h with ⟨p, h1, h2⟩ | ⟨xs, h1, h2⟩
  · exact wp_lenV h1 h2
  · exact wp_lenO h1 h2
theorem wp_ixL {db : Cd PV} (h : LkS e[i]? (fun _ => Wp (dOp pIx (dUse i) db e s) Q R) (fun _ => Wp (db e s) (fun k e s => ∃ xs j w, e[i]? = some (.own xs) ∧ k = .int j ∧ atI xs j = some w ∧ Q w e s) R)) : Wp (dIxO i db e s) Q R := by
  rcases h with ⟨p, h1, h2⟩ | ⟨xs, h1, h2⟩
  · exact wp_ixV h1 h2
  · exact wp_ixO h1 h2
theorem wp_mthL {mf : List PV → List PV → Option (PV × List PV)} {d : Cd (List PV)} (h : LkS e[i]? (fun _ => False) (fun _ => Wp (d e s) (fun ps e s => ∃ xs w xs', e[i]? = some (.own xs) ∧ mf xs ps = some (w, xs') ∧ Q w (e.set i (.own xs')) s) R)) : Wp (dMthO i mf d e s) Q R := by
  rcases h with ⟨p, h1, h2⟩ | ⟨xs, h1, h2⟩
  · exact h2.elim
  · exact wp_mthO h1 h2
theorem wp_gtupC {n : Nat} {gs : List PV → Cd Unit} {ps : List PV} {Q : Pq Unit} (hl : ps.length = n) (h : Wp (gs ps e s) Q R) : Wp (gTupD n gs (.tup ps) e s) Q R := wp_gtup rfl hl h
theorem wp_gtupZ {n : Nat} {gs : List PV → Cd Unit} {ps : List PV} {Q : Pq Unit} (hl : ps.length = n) (h : Wp (gs ps e s) Q R) : Wp (gTupD n gs (.tuz ps) e s) Q R := by
  unfold gTupD
  simp only [hl, if_true]
  exact h
end
theorem x_own1 {o : Option Slot} {ys : List PV} {A : List PV → Prop} (h : o = some (.own ys)) (k : A ys) : ∃ ys, o = some (.own ys) ∧ A ys := ⟨ys, h, k⟩
theorem x_tupf {s : Stt} {p : List PV} {w : PV} {Q : PV → Prop} (hf : fTuple s p = some w) (h : Q w) : ∃ w, fTuple s p = some w ∧ Q w := ⟨w, hf, h⟩
theorem x_minf {s : Stt} {p : List PV} {w : PV} {Q : PV → Prop} (hf : fMin s p = some w) (h : Q w) : ∃ w, fMin s p = some w ∧ Q w := ⟨w, hf, h⟩
theorem x_maxf {s : Stt} {p : List PV} {w : PV} {Q : PV → Prop} (hf : fMax s p = some w) (h : Q w) : ∃ w, fMax s p = some w ∧ Q w := ⟨w, hf, h⟩
theorem Wp.mono' {α : Type} {e : Env} {s : Stt} {d : Cd α} (Q : Pq α) (R : Pr) {Q' : Pq α} {R' : Pr} (h : Wp (d e s) Q R) (hq : ∀ a e s, Q a e s → Q' a e s) (hr : ∀ c w e s, R c w e s → R' c w e s) : Wp (d e s) Q' R' := Wp.mono h hq hr
theorem pAdd_lst (S : Stt) (xs ys : List PV) (h : xs.length + ys.length ≤ sizeLine) : pAdd S (.lst xs) (.lst ys) = some (.lst (xs ++ ys)) := by
  show (if xs.length + ys.length ≤ sizeLine then some (PV.lst (xs ++ ys)) else none) = _
  rw [if_pos h]
theorem x_addL {s : Stt} {xs ys : List PV} {Q : PV → Prop} (h : xs.length + ys.length ≤ sizeLine) (hq : Q (.lst (xs ++ ys))) : ∃ w, pAdd s (.lst xs) (.lst ys) = some w ∧ Q w := ⟨_, pAdd_lst s xs ys h, hq⟩
/-- xs[n:] -/
theorem cut_from (xs : List PV) (n : Nat) : cutP xs (some (n : Int)) none = xs.drop n := by
  unfold cutP
  rw [HT.sIx_nat, HT.sIx_none]
  by_cases h : n ≤ xs.length
  · rw [Nat.min_eq_left h]
    exact List.take_of_length_le (by simp)
  · rw [Nat.min_eq_right (by omega), List.drop_of_length_le (Nat.le_refl _), List.drop_of_length_le (by omega)]
    simp
/-- xs[:n] -/
theorem cut_to (xs : List PV) (n : Nat) : cutP xs none (some (n : Int)) = xs.take n := by
  unfold cutP
  rw [HT.sIx_nat, HT.sIx_none]
  simp only [List.drop_zero, Nat.sub_zero]
  by_cases h : n ≤ xs.length
  · rw [Nat.min_eq_left h]
  · rw [Nat.min_eq_right (by omega), List.take_of_length_le (Nat.le_refl _), List.take_of_length_le (by omega)]
end FS
set_option Elab.async false
set_option linter.all false
set_option maxRecDepth 100000
/-! FsWp3: the rules for try with several clauses, for lambdas, for a, b, c = x, y, z. -/
namespace FS
open PySem L2
section
variable {α β : Type} {e : Env} {s : Stt} {R : Pr} {QS : Pq Flw} {Q : Pq PV}
theorem wp_par3 {i j l : Nat} {d : Cd (List PV)} (h : Wp (d e s) (fun ps e s => ∃ p q r, ps = [p, q, r] ∧ QS .next (((e.set i (.val p)).set j (.val q)).set l (.val r)) s) R) : Wp (dPar3 i j l d e s) QS R :=
  wp_bnd (Wp.mono h (fun ps e1 s1 ⟨p, q, r, e2, h2⟩ => by
    subst e2
    exact h2) fun _ _ _ _ h => h)
theorem x_par3 {p q r : PV} {Q : PV → PV → PV → Prop} (h : Q p q r) : ∃ p' q' r', [p, q, r] = [p', q', r'] ∧ Q p' q' r' := ⟨p, q, r, rfl, h⟩
theorem wp_try {tab : List Str} {hs : List Hdl} {d : Cd Flw} (hd : Wp (d e s) QS (fun c w e s => tab.contains c = true ∧ Wp (hdl hs c w e s) QS R)) : Wp (dTry tab hs d e s) QS R := by
  unfold dTry
  cases q : d e s with
  | bad => rw [q] at hd; exact hd
  | ok f e1 s1 => rw [q] at hd; exact hd
  | raise c w e1 s1 =>
    rw [q] at hd
    obtain ⟨h1, h2⟩ := hd
    simp only [h1, if_true]
    exact h2
theorem wp_hskip {h : Str} {i : Option Nat} {dd : Str → Addr → Addr → Cd Flw} {r : List Hdl} {c : Str} {w : PV} (hc : catches h c = false) (hd : Wp (hdl r c w e s) QS R) : Wp (hdl (⟨h, i, dd⟩ :: r) c w e s) QS R := by
  cases i with
  | none => unfold hdl; rw [if_neg (by rw [hc]; exact Bool.false_ne_true)]; exact hd
  | some i => unfold hdl; rw [if_neg (by rw [hc]; exact Bool.false_ne_true)]; exact hd
theorem wp_htake {h : Str} {i : Nat} {dd : Str → Addr → Addr → Cd Flw} {r : List Hdl} {c : Str} {w : PV} {o : Out Flw} (hc : catches h c = true) (hd : ∀ a b, clearO i (dd c a b (e.set i (.exc a b w)) s) = o) (ho : Wp o QS R) : Wp (hdl (⟨h, some i, dd⟩ :: r) c w e s) QS R := by
  unfold hdl
  rw [if_pos hc]
  simp only [hd, implies_true, if_true]
  exact ho
theorem wp_hbare {h : Str} {dd : Str → Addr → Addr → Cd Flw} {r : List Hdl} {c : Str} {w : PV} (hc : catches h c = true) (hd : Wp (dd c 0 0 e s) QS (fun _ _ _ _ => False)) : Wp (hdl (⟨h, none, dd⟩ :: r) c w e s) QS R := by
  unfold hdl
  rw [if_pos hc]
  cases q : dd c 0 0 e s with
  | bad => rw [q] at hd; exact hd.elim
  | ok f e1 s1 => rw [q] at hd; exact hd
  | raise c w e1 s1 => rw [q] at hd; exact hd.elim
theorem wp_act {n i : Nat} {f : Addr} {act : Stt → Res} (hl : e.length = n) (he : e[i]? = some (.val (.raw (.ref f)))) (h : Fn (act s) (fun p s => Q p e s) (fun c w s => R c w (List.replicate n .none) s)) : Wp (dAct n i f act e s) Q R := by
  unfold dAct
  rw [if_pos ⟨hl, he⟩]
  cases q : act s with
  | bad => rw [q] at h; exact h
  | ok p s1 => rw [q] at h; exact h
  | raise c w s1 => rw [q] at h; exact h
theorem wp_lam {den : Addr → (Stt → Res) → Stt → Res} {d : Cd PV} {v0 : PV → PV} {val : Str → PV → PV} {tab : List Str} (hden : ∀ (f : Addr) (act : Stt → Res) (s : Stt) (Q : PV → Stt → Prop), Fn (act s) (fun p s => Q (v0 p) s) (fun c w s => tab.contains c = true ∧ Q (val c w) s) → Fn (den f act s) Q noR)
    (h : Wp (d (hide e) s) (fun p _ s => Q (v0 p) e s) (fun c w _ s => tab.contains c = true ∧ Q (val c w) e s)) : Wp (dLam den d e s) Q R := by
  have key : ∃ v s', (∀ f, den f (dThunk d e) s = .ok v s') ∧ Q v e s' := by
    cases q : d (hide e) s with
    | bad => rw [q] at h; exact h.elim
    | ok p e1 s1 =>
      rw [q] at h
      refine ⟨v0 p, s1, fun f => ?_, h⟩
      obtain ⟨v, s2, h1, h2⟩ := (hden f (dThunk d e) s (fun v s' => v = v0 p ∧ s' = s1) (by unfold dThunk; rw [q]; exact ⟨rfl, rfl⟩)).ok
      rw [h1, h2.1, h2.2]
    | raise c w e1 s1 =>
      rw [q] at h
      refine ⟨val c w, s1, fun f => ?_, h.2⟩
      obtain ⟨v, s2, h1, h2⟩ := (hden f (dThunk d e) s (fun v s' => v = val c w ∧ s' = s1) (by unfold dThunk; rw [q]; exact ⟨h.1, rfl, rfl⟩)).ok
      rw [h1, h2.1, h2.2]
  obtain ⟨v, s', hv, hq⟩ := key
  unfold dLam
  rw [if_pos (fun f => by rw [hv f, hv 0]), hv 0]
  exact hq
end
theorem x_mulT {s : Stt} {xs : List PV} {k : Int} {Q : PV → Prop} (h1 : xs ≠ []) (h2 : k < 1048576 ∧ -1048576 < k ∧ xs.length * k.toNat ≤ sizeLine ∧ xs.length ≤ sizeLine) (hq : Q (.tup (List.replicate k.toNat xs).flatten)) : ∃ w, pMulA s (.tup xs) (.int k) = some w ∧ Q w := by
  refine ⟨_, ?_, hq⟩
  have e2 : pMulT s (.tup xs) (.int k) = some (.tup (List.replicate k.toNat xs).flatten) := by
    show (if xs ≠ [] ∧ k < 1048576 ∧ -1048576 < k ∧ xs.length * k.toNat ≤ sizeLine ∧ xs.length ≤ sizeLine then some (PV.tup (List.replicate k.toNat xs).flatten) else none) = _
    rw [if_pos ⟨h1, h2⟩]
  have e1 : pMul s (.tup xs) (.int k) = none := rfl
  unfold pMulA
  rw [e1]
  exact e2
theorem fn_lam {body : Cd Flw} {e : Env} {s : Stt} {Q : PV → Stt → Prop} {R : Str → PV → Stt → Prop} (h : Wp (body e s) (FQ Q) (fun c w _ s => R c w s)) : Fn (fin (body e s)) Q R := by
  cases q : body e s with
  | bad => rw [q] at h; exact h.elim
  | raise c w e1 s1 => rw [q] at h; exact h
  | ok f e1 s1 =>
    rw [q] at h
    cases f <;> exact h
end FS
set_option Elab.async false
set_option linter.all false
set_option maxRecDepth 100000
/-! FsWp4: the rules for sum, range with a step, new lists side by side. -/
namespace FS
open PySem L2
section
variable {α β : Type} {e : Env} {s : Stt} {R : Pr} {QS : Pq Flw} {Q : Pq PV} {i j l : Nat}
theorem wp_rng3 {d : Cd (List PV)} {Q : Pq (List PV)} (h : Wp (d e s) (fun ps e s => ∃ xs, rng3 ps = some xs ∧ Q xs e s) R) : Wp (dRng3 d e s) Q R :=
  wp_bnd (Wp.mono h (fun ps e1 s1 ⟨xs, e2, h2⟩ => wp_lift e2 h2) fun _ _ _ _ h => h)
theorem wp_ownSet {da : Cd (List PV)} {db : Cd PV} (h : Wp (da e s) (fun xs e s => Wp (db e s) (fun q e s => QS .next ((e.set i (.own xs)).set j (.val q)) s) (fun _ _ _ _ => False)) R) : Wp (dOwnSet i j da db e s) QS R :=
  wp_bnd (Wp.mono h (fun xs e1 s1 h1 => by
    show Wp (match db e1 s1 with | .ok q e s => .ok .next ((e.set i (.own xs)).set j (.val q)) s | _ => .bad) QS R
    cases q : db e1 s1 with
    | bad => rw [q] at h1; exact h1.elim
    | raise c w e2 s2 => rw [q] at h1; exact h1.elim
    | ok p e2 s2 => rw [q] at h1; exact h1) fun _ _ _ _ h => h)
theorem wp_setOwnNil {da : Cd PV} {db : Cd (List PV)} (h : Wp (da e s) (fun p e s => Wp (db e s) (fun xs e s => QS .next (((e.set i (.val p)).set j (.own xs)).set l (.own [])) s) R) R) : Wp (dSetOwnNil i j l da db e s) QS R :=
  wp_bnd (Wp.mono h (fun p e1 s1 h1 => wp_bnd (Wp.mono h1 (fun xs e2 s2 h2 => h2) fun _ _ _ _ h => h)) fun _ _ _ _ h => h)
end
end FS
set_option Elab.async false
set_option linter.all false
set_option maxRecDepth 100000
/-! FsWp5: count, sum and all of generator expressions. -/
namespace FS
open PySem L2
section
variable {α β : Type} {e : Env} {s : Stt} {R : Pr} {QS : Pq Flw} {Q : Pq PV}
theorem wp_count {da : Cd PV} {db : Cd (List PV)} (h : Wp (da e s) (fun p e s => ∃ xs ns, p = .tup xs ∧ intsOf xs = some ns ∧ Wp (db e s) (fun qs e s => ∃ i, qs = [.int i] ∧ Q (.int (ns.count i : Nat)) e s) R) R) : Wp (dCount da db e s) Q R :=
  wp_bnd (Wp.mono h (fun p e1 s1 ⟨xs, ns, h1, h2, h3⟩ => by
    subst h1
    simp only [h2]
    exact wp_bnd (Wp.mono h3 (fun qs e2 s2 ⟨i, h4, h5⟩ => by
      subst h4
      exact h5) fun _ _ _ _ h => h)) fun _ _ _ _ h => h)
theorem wp_sumG {d : Cd (List PV)} {q : Env → PV → Option PV} (h : Wp (d e s) (fun ps e s => ∃ rs ns, qMap q e ps = some rs ∧ intsOf rs = some ns ∧ few ns = true ∧ Q (.int ns.sum) e s) R) : Wp (dSumG d q e s) Q R :=
  wp_bnd (Wp.mono h (fun ps e1 s1 ⟨rs, ns, h1, h2, h3, h4⟩ => by
    simp only [h1, Option.bind_some, h2, h3, if_true]
    exact h4) fun _ _ _ _ h => h)
theorem wp_allG {d : Cd (List PV)} {q : Env → PV → Option PV} (h : Wp (d e s) (fun ps e s => ∃ rs bs, qMap q e ps = some rs ∧ blsOf rs = some bs ∧ Q (.bl (bs.all id)) e s) R) : Wp (dAllG d q e s) Q R :=
  wp_bnd (Wp.mono h (fun ps e1 s1 ⟨rs, ns, h1, h2, h4⟩ => by
    simp only [h1, Option.bind_some, h2]
    exact h4) fun _ _ _ _ h => h)
end
end FS
set_option Elab.async false
set_option linter.all false
set_option maxRecDepth 100000
/-! FsWp6: the rules of FsAug. -/
namespace FS
open PySem L2
end FS
set_option Elab.async false
set_option linter.all false
set_option maxRecDepth 100000
/-! FsWp7: the rules of FsUnl, FsOwnIt, FsRem. -/
namespace FS
open PySem L2
end FS
set_option Elab.async false
set_option linter.all false
set_option maxRecDepth 100000
/-! FsWp8: the rules of FsGc5, FsMet3. -/
namespace FS
open PySem L2
section
variable {α β : Type} {e : Env} {s : Stt} {R : Pr} {QS : Pq Flw} {Q : Pq PV} {QL : Pq (List PV)}
theorem wp_allIn {g1 : PV → Cd Unit} {de : Cd PV} {k : Cd Bool} {J : Env → Stt → Prop} {f : PV → Bool} {QB : Pq Bool} : ∀ (qs : List PV), (∀ q ∈ qs, ∀ e s, J e s → Wp (g1 q e s) (fun _ e s => Wp (de e s) (fun y e s => y = .bl (f q) ∧ J e s) (fun _ _ _ _ => False)) (fun _ _ _ _ => False)) →
    (qs.all f = false → ∀ e s, J e s → QB false e s) → (qs.all f = true → ∀ e s, J e s → Wp (k e s) QB R) → ∀ (e : Env) (s : Stt), J e s → Wp (allIn g1 de k qs e s) QB R
  | [], _, _, h2, e, s, hj => h2 rfl e s hj
  | q :: qs, h0, h1, h2, e, s, hj => by
    refine wp_bnd (Wp.mono (h0 q List.mem_cons_self e s hj) (fun _ e1 s1 q1 => wp_bnd (Wp.mono q1 (fun y e2 s2 ⟨q2, q3⟩ => ?_) fun _ _ _ _ h => h.elim)) fun _ _ _ _ h => h.elim)
    subst q2
    cases hf : f q with
    | false => exact h1 (by rw [List.all_cons, hf]; rfl) e2 s2 q3
    | true => exact wp_allIn qs (fun q' m => h0 q' (List.mem_cons_of_mem _ m)) (fun h => h1 (by rw [List.all_cons, hf, h]; rfl)) (fun h => h2 (by rw [List.all_cons, hf, h]; rfl)) e2 s2 q3
theorem wp_allOut {g0 : PV → Cd Unit} {d1 : Cd (List PV)} {g1 : PV → Cd Unit} {de : Cd PV} {I : Env → Stt → Prop} {J : PV → Env → Stt → Prop} {inn : PV → List PV} {f : PV → PV → Bool} {QB : Pq Bool} : ∀ (ps : List PV),
    (∀ p ∈ ps, ∀ e s, I e s → Wp (g0 p e s) (fun _ e s => Wp (d1 e s) (fun qs e s => qs = inn p ∧ qs.length ≤ 1024 ∧ J p e s) (fun _ _ _ _ => False)) (fun _ _ _ _ => False)) →
    (∀ p ∈ ps, ∀ q ∈ inn p, ∀ e s, J p e s → Wp (g1 q e s) (fun _ e s => Wp (de e s) (fun y e s => y = .bl (f p q) ∧ J p e s) (fun _ _ _ _ => False)) (fun _ _ _ _ => False)) → (∀ p ∈ ps, ∀ e s, J p e s → I e s) →
    (∀ e s, I e s → QB (ps.all fun p => (inn p).all (f p)) e s) → ∀ (e : Env) (s : Stt), I e s → Wp (allOut g0 d1 g1 de ps e s) QB R
  | [], _, _, _, h3, e, s, hi => h3 e s hi
  | p :: ps, h0, h1, h2, h3, e, s, hi => by
    refine wp_bnd (Wp.mono (h0 p List.mem_cons_self e s hi) (fun _ e1 s1 q1 => wp_bnd (Wp.mono q1 (fun qs e2 s2 ⟨q2, q3, q4⟩ => ?_) fun _ _ _ _ h => h.elim)) fun _ _ _ _ h => h.elim)
    subst q2
    rw [if_pos q3]
    refine wp_allIn (J := J p) (f := f p) (inn p) (h1 p List.mem_cons_self) (fun h e s hj => ?_) (fun h e s hj => ?_) e2 s2 q4
    · have q := h3 e s (h2 p List.mem_cons_self e s hj)
      rw [List.all_cons, h] at q
      exact q
    · refine wp_allOut ps (fun p' m => h0 p' (List.mem_cons_of_mem _ m)) (fun p' m => h1 p' (List.mem_cons_of_mem _ m)) (fun p' m => h2 p' (List.mem_cons_of_mem _ m)) (fun e s hi => ?_) e s (h2 p List.mem_cons_self e s hj)
      have q := h3 e s hi
      rw [List.all_cons, h] at q
      exact q
theorem wp_all2 {d0 : Cd (List PV)} {g0 : PV → Cd Unit} {d1 : Cd (List PV)} {g1 : PV → Cd Unit} {de : Cd PV}
    (h : Wp (d0 e s) (fun ps e s => ∃ (I : Env → Stt → Prop) (J : PV → Env → Stt → Prop) (inn : PV → List PV) (f : PV → PV → Bool), I (.none :: .none :: hide e) s ∧
      (∀ p ∈ ps, ∀ e s, I e s → Wp (g0 p e s) (fun _ e s => Wp (d1 e s) (fun qs e s => qs = inn p ∧ qs.length ≤ 1024 ∧ J p e s) (fun _ _ _ _ => False)) (fun _ _ _ _ => False)) ∧
      (∀ p ∈ ps, ∀ q ∈ inn p, ∀ e s, J p e s → Wp (g1 q e s) (fun _ e s => Wp (de e s) (fun y e s => y = .bl (f p q) ∧ J p e s) (fun _ _ _ _ => False)) (fun _ _ _ _ => False)) ∧ (∀ p ∈ ps, ∀ e s, J p e s → I e s) ∧
      ∀ e' s', I e' s' → Q (.bl (ps.all fun p => (inn p).all (f p))) e s') R) : Wp (dAll2 d0 g0 d1 g1 de e s) Q R := by
  refine wp_bnd (Wp.mono h (fun ps e1 s1 ⟨I, J, inn, f, h0, h1, h2, h3, h4⟩ => ?_) fun _ _ _ _ h => h)
  have q := wp_allOut (R := fun _ _ _ _ => False) (QB := fun b _ s' => Q (.bl b) e1 s') ps h1 h2 h3 (fun e' s' hi => h4 e' s' hi) _ s1 h0
  show Wp (match allOut g0 d1 g1 de ps (.none :: .none :: hide e1) s1 with | .ok b _ s' => Out.ok (.bl b) e1 s' | _ => .bad) Q R
  cases r : allOut g0 d1 g1 de ps (.none :: .none :: hide e1) s1 with
  | ok b e2 s2 => rw [r] at q; exact q
  | raise c w e2 s2 => rw [r] at q; exact q.elim
  | bad => rw [r] at q; exact q.elim
end
end FS
set_option Elab.async false
set_option linter.all false
set_option maxRecDepth 100000
/-! FsWi: the rules of FsWp and FsWp2 over a predicate that Lean does not run (printed by our wi.py). -/
namespace FS
open PySem L2
namespace I
/-- as FS.Wp, but nobody looks into it -/
@[irreducible] def Wp {α : Type} (o : Out α) (Q : Pq α) (R : Pr) : Prop := FS.Wp o Q R
theorem Wp_eq {α : Type} (o : Out α) (Q : Pq α) (R : Pr) : Wp o Q R = FS.Wp o Q R := by unfold Wp; rfl
section
variable {α β : Type} {e : Env} {s : Stt} {R : Pr}
theorem Wp.mono {o : Out α} {Q Q' : Pq α} {R R' : Pr} (h : Wp o Q R) (hq : ∀ a e s, Q a e s → Q' a e s) (hr : ∀ c w e s, R c w e s → R' c w e s) : Wp o Q' R' := by
  simp only [Wp_eq] at *
  exact FS.Wp.mono h hq hr
theorem wp_ret {a : α} {Q : Pq α} (h : Q a e s) : Wp (ret a e s) Q R := by
  simp only [Wp_eq] at *
  exact FS.wp_ret h
theorem wp_ok {a : α} {Q : Pq α} (h : Q a e s) : Wp (.ok a e s) Q R := by
  simp only [Wp_eq] at *
  exact FS.wp_ok h
variable {Q : Pq PV}
theorem wp_use {i : Nat} {p : PV} (h : e[i]? = some (.val p)) (hq : Q p e s) : Wp (dUse i e s) Q R := by
  simp only [Wp_eq] at *
  exact FS.wp_use h hq
theorem wp_useO {i : Nat} {xs : List PV} (h : e[i]? = some (.own xs)) (hq : Q (.lst xs) (e.set i (.val (.lst xs))) s) : Wp (dUse i e s) Q R := by
  simp only [Wp_eq] at *
  exact FS.wp_useO h hq
theorem wp_op {f : Stt → PV → PV → Option PV} {a b : Cd PV} (h : Wp (a e s) (fun p e s => Wp (b e s) (fun q e s => ∃ w, f s p q = some w ∧ Q w e s) R) R) : Wp (dOp f a b e s) Q R := by
  simp only [Wp_eq] at *
  exact FS.wp_op h
theorem wp_un {f : PV → Option PV} {a : Cd PV} (h : Wp (a e s) (fun p e s => ∃ w, f p = some w ∧ Q w e s) R) : Wp (dUn f a e s) Q R := by
  simp only [Wp_eq] at *
  exact FS.wp_un h
theorem wp_nil {Q : Pq (List PV)} (h : Q [] e s) : Wp (dNil e s) Q R := by
  simp only [Wp_eq] at *
  exact FS.wp_nil h
theorem wp_cons {a : Cd PV} {r : Cd (List PV)} {Q : Pq (List PV)} (h : Wp (a e s) (fun p e s => Wp (r e s) (fun ps e s => Q (p :: ps) e s) R) R) : Wp (dCons a r e s) Q R := by
  simp only [Wp_eq] at *
  exact FS.wp_cons h
theorem wp_tup {d : Cd (List PV)} (h : Wp (d e s) (fun ps e s => ps.length ≤ sizeLine ∧ Q (.tup ps) e s) R) : Wp (dTup d e s) Q R := by
  simp only [Wp_eq] at *
  exact FS.wp_tup h
theorem wp_disp {d : Cd (List PV)} {Q : Pq (List PV)} (h : Wp (d e s) (fun ps e s => ps.length ≤ sizeLine ∧ Q ps e s) R) : Wp (dDisp d e s) Q R := by
  simp only [Wp_eq] at *
  exact FS.wp_disp h
theorem wp_frz {d : Cd (List PV)} (h : Wp (d e s) (fun ps e s => Q (.lst ps) e s) R) : Wp (dFrz d e s) Q R := by
  simp only [Wp_eq] at *
  exact FS.wp_frz h
theorem wp_new {d : Cd (List PV)} (h : Wp (d e s) (fun xs e s => Q (.ref s.length) e (s ++ [.lst xs])) R) : Wp (dNew d e s) Q R := by
  simp only [Wp_eq] at *
  exact FS.wp_new h
theorem wp_b {d : Cd PV} {Q : Pq Bool} (h : Wp (d e s) (fun p e s => ∃ b, asB p = some b ∧ Q b e s) R) : Wp (dB d e s) Q R := by
  simp only [Wp_eq] at *
  exact FS.wp_b h
theorem wp_tru {d : Cd PV} {Q : Pq Bool} (h : Wp (d e s) (fun p e s => ∃ b, tru s p = some b ∧ Q b e s) R) : Wp (dTru d e s) Q R := by
  simp only [Wp_eq] at *
  exact FS.wp_tru h
theorem wp_notT {d : Cd Bool} {Q : Pq Bool} (h : Wp (d e s) (fun b e s => Q (!b) e s) R) : Wp (dNotT d e s) Q R := by
  simp only [Wp_eq] at *
  exact FS.wp_notT h
theorem wp_andT {d r : Cd Bool} {Q : Pq Bool} (h : Wp (d e s) (fun b e s => (b = true → Wp (r e s) Q R) ∧ (b = false → Q false e s)) R) : Wp (dAndT d r e s) Q R := by
  simp only [Wp_eq] at *
  exact FS.wp_andT h
theorem wp_orT {d r : Cd Bool} {Q : Pq Bool} (h : Wp (d e s) (fun b e s => (b = true → Q true e s) ∧ (b = false → Wp (r e s) Q R)) R) : Wp (dOrT d r e s) Q R := by
  simp only [Wp_eq] at *
  exact FS.wp_orT h
theorem wp_andV {d r : Cd PV} (h : Wp (d e s) (fun p e s => ∃ b, asB p = some b ∧ (b = true → Wp (r e s) Q R) ∧ (b = false → Q (.bl false) e s)) R) : Wp (dAndV d r e s) Q R := by
  simp only [Wp_eq] at *
  exact FS.wp_andV h
theorem wp_orV {d r : Cd PV} (h : Wp (d e s) (fun p e s => ∃ b, asB p = some b ∧ (b = true → Q (.bl true) e s) ∧ (b = false → Wp (r e s) Q R)) R) : Wp (dOrV d r e s) Q R := by
  simp only [Wp_eq] at *
  exact FS.wp_orV h
theorem wp_notV {d : Cd PV} (h : Wp (d e s) (fun p e s => ∃ b, asB p = some b ∧ Q (.bl (!b)) e s) R) : Wp (dNotV d e s) Q R := by
  simp only [Wp_eq] at *
  exact FS.wp_notV h
theorem wp_ife {t : Cd Bool} {a b : Cd PV} (h : Wp (t e s) (fun k e s => (k = true → Wp (a e s) Q R) ∧ (k = false → Wp (b e s) Q R)) R) : Wp (dIfE t a b e s) Q R := by
  simp only [Wp_eq] at *
  exact FS.wp_ife h
theorem wp_chain {f f' : Stt → PV → PV → Option PV} {a b c : Cd PV} (h : Wp (a e s) (fun p e s => Wp (b e s) (fun q e s => ∃ k, f s p q = some (.bl k) ∧ (k = true → Wp (c e s) (fun r e s => ∃ w, f' s q r = some w ∧ Q w e s) R) ∧ (k = false → Q (.bl false) e s)) R) R) : Wp (dChain f f' a b c e s) Q R := by
  simp only [Wp_eq] at *
  exact FS.wp_chain h
theorem wp_fn {g : Stt → List PV → Option PV} {d : Cd (List PV)} (h : Wp (d e s) (fun ps e s => ∃ w, g s ps = some w ∧ Q w e s) R) : Wp (dFn g d e s) Q R := by
  simp only [Wp_eq] at *
  exact FS.wp_fn h
theorem wp_call {n : Nat} {den : List PV → Stt → Res} {d : Cd (List PV)} (h : Wp (d e s) (fun ps e s => ps.length = n ∧ Fn (den ps s) (fun p s => Q p e s) (fun c w s => R c w e s)) R) : Wp (dCall n den d e s) Q R := by
  simp only [Wp_eq] at *
  exact FS.wp_call h
theorem wp_noPart {Q : Pq (Option Int)} (h : Q none e s) : Wp (dNoPart e s) Q R := by
  simp only [Wp_eq] at *
  exact FS.wp_noPart h
theorem wp_part {d : Cd PV} {Q : Pq (Option Int)} (h : Wp (d e s) (fun p e s => ∃ i, p = .int i ∧ Q (some i) e s) R) : Wp (dPart d e s) Q R := by
  simp only [Wp_eq] at *
  exact FS.wp_part h
theorem wp_cut {d : Cd PV} {l h' : Cd (Option Int)} (h : Wp (d e s) (fun p e s => Wp (l e s) (fun l e s => Wp (h' e s) (fun u e s => ∃ w, pCut s p l u = some w ∧ Q w e s) R) R) R) : Wp (dCut d l h' e s) Q R := by
  simp only [Wp_eq] at *
  exact FS.wp_cut h
theorem wp_list {d : Cd PV} {Q : Pq (List PV)} (h : Wp (d e s) (fun p e s => ∃ xs, itemsOf s p = some xs ∧ Q xs e s) R) : Wp (dListF d e s) Q R := by
  simp only [Wp_eq] at *
  exact FS.wp_list h
theorem wp_mthO {i : Nat} {mf : List PV → List PV → Option (PV × List PV)} {d : Cd (List PV)} {ys : List PV} (h0 : e[i]? = some (.own ys))
    (h : Wp (d e s) (fun ps e s => ∃ xs w xs', e[i]? = some (.own xs) ∧ mf xs ps = some (w, xs') ∧ Q w (e.set i (.own xs')) s) R) : Wp (dMthO i mf d e s) Q R := by
  simp only [Wp_eq] at *
  exact FS.wp_mthO h0 h
theorem wp_mthR {mf : List PV → List PV → Option (PV × List PV)} {o : Cd PV} {d : Cd (List PV)} (h : Wp (o e s) (fun p e s => ∃ n ys, p = .ref n ∧ s[n]? = some (.lst ys) ∧ Wp (d e s) (fun ps e s => ∃ xs w xs', s[n]? = some (.lst xs) ∧ mf xs ps = some (w, xs') ∧ Q w e (s.set n (.lst xs'))) R) R) : Wp (dMthR mf o d e s) Q R := by
  simp only [Wp_eq] at *
  exact FS.wp_mthR h
variable {QS : Pq Flw} {d : Cd PV}
theorem wp_nxt (h : QS .next e s) : Wp (nxt e s) QS R := by
  simp only [Wp_eq] at *
  exact FS.wp_nxt h
theorem wp_seq {a b : Cd Flw} (h : Wp (a e s) (SQ (fun e s => Wp (b e s) QS R) QS) R) : Wp (dSeq a b e s) QS R := by
  simp only [Wp_eq] at *
  exact FS.wp_seq h
theorem wp_drop (h : Wp (d e s) (fun _ e s => QS .next e s) R) : Wp (dDrop d e s) QS R := by
  simp only [Wp_eq] at *
  exact FS.wp_drop h
theorem wp_dret (h : Wp (d e s) (fun p e s => QS (.ret p) e s) R) : Wp (dRet d e s) QS R := by
  simp only [Wp_eq] at *
  exact FS.wp_dret h
theorem wp_if {t : Cd Bool} {a b : Cd Flw} (h : Wp (t e s) (fun k e s => (k = true → Wp (a e s) QS R) ∧ (k = false → Wp (b e s) QS R)) R) : Wp (dIf t a b e s) QS R := by
  simp only [Wp_eq] at *
  exact FS.wp_if h
theorem wp_set {i : Nat} (h : Wp (d e s) (fun p e s => QS .next (e.set i (.val p)) s) R) : Wp (dSet i d e s) QS R := by
  simp only [Wp_eq] at *
  exact FS.wp_set h
theorem wp_own {i : Nat} {d : Cd (List PV)} (h : Wp (d e s) (fun xs e s => QS .next (e.set i (.own xs)) s) R) : Wp (dOwn i d e s) QS R := by
  simp only [Wp_eq] at *
  exact FS.wp_own h
theorem wp_asg {g : PV → Cd Unit} (h : Wp (d e s) (fun p e s => Wp (g p e s) (fun _ e s => QS .next e s) R) R) : Wp (dAsg d g e s) QS R := by
  simp only [Wp_eq] at *
  exact FS.wp_asg h
theorem wp_gset {i : Nat} {p : PV} {Q : Pq Unit} (h : Q () (e.set i (.val p)) s) : Wp (gSet i p e s) Q R := by
  simp only [Wp_eq] at *
  exact FS.wp_gset h
theorem wp_gcons {g : PV → Cd Unit} {gs : List PV → Cd Unit} {p : PV} {ps : List PV} {Q : Pq Unit} (h : Wp (g p e s) (fun _ e s => Wp (gs ps e s) Q R) R) : Wp (gsCons g gs (p :: ps) e s) Q R := by
  simp only [Wp_eq] at *
  exact FS.wp_gcons h
theorem wp_gnil {Q : Pq Unit} (h : Q () e s) : Wp (gsNil [] e s) Q R := by
  simp only [Wp_eq] at *
  exact FS.wp_gnil h
theorem wp_par {i j : Nat} {d : Cd (List PV)} (h : Wp (d e s) (fun ps e s => ∃ p q, ps = [p, q] ∧ QS .next ((e.set i (.val p)).set j (.val q)) s) R) : Wp (dPar i j d e s) QS R := by
  simp only [Wp_eq] at *
  exact FS.wp_par h
theorem wp_setO {i : Nat} {di dv : Cd PV} (h : Wp (dv e s) (fun w e s => ∃ ys, e[i]? = some (.own ys) ∧ Wp (di e s) (fun k e s => ∃ xs j m, e[i]? = some (.own xs) ∧ k = .int j ∧ ixN xs.length j = some m ∧ QS .next (e.set i (.own (xs.set m w))) s) R) R) : Wp (dSetO i di dv e s) QS R := by
  simp only [Wp_eq] at *
  exact FS.wp_setO h
theorem wp_setR {o di dv : Cd PV} (h : Wp (dv e s) (fun w e s => Wp (o e s) (fun p e s => Wp (di e s) (fun k e s => ∃ n xs j m, p = .ref n ∧ k = .int j ∧ s[n]? = some (.lst xs) ∧ ixN xs.length j = some m ∧ QS .next e (s.set n (.lst (xs.set m w)))) R) R) R) : Wp (dSetR o di dv e s) QS R := by
  simp only [Wp_eq] at *
  exact FS.wp_setR h
theorem wp_raise {c : Str} (h : Wp (d e s) (fun p e s => R c p e s) R) : Wp (dRaise c d e s) QS R := by
  simp only [Wp_eq] at *
  exact FS.wp_raise h
theorem wp_for {it : Cd (List PV)} {g : PV → Cd Unit} {b : Cd Flw} (h : Wp (it e s) (fun ps e s => ∃ I : Nat → Env → Stt → Prop, I 0 e s ∧ (∀ (i : Nat) (p : PV) (e : Env) (s : Stt), ps[i]? = some p → I i e s → Wp (g p e s) (fun _ e s => Wp (b e s) (LQ (I (i + 1)) QS) R) R) ∧ ∀ e s, I ps.length e s → QS .next e s) R) :
    Wp (dFor it g b e s) QS R := by
  simp only [Wp_eq] at *
  exact FS.wp_for h
theorem wp_items {Q : Pq (List PV)} (h : Wp (d e s) (fun p e s => ∃ xs, itemsF p = some xs ∧ Q xs e s) R) : Wp (dItems d e s) Q R := by
  simp only [Wp_eq] at *
  exact FS.wp_items h
theorem wp_rng1 {d : Cd (List PV)} {Q : Pq (List PV)} (h : Wp (d e s) (fun ps e s => ∃ xs, rng1 ps = some xs ∧ Q xs e s) R) : Wp (dRng1 d e s) Q R := by
  simp only [Wp_eq] at *
  exact FS.wp_rng1 h
theorem wp_rng2 {d : Cd (List PV)} {Q : Pq (List PV)} (h : Wp (d e s) (fun ps e s => ∃ xs, rng2 ps = some xs ∧ Q xs e s) R) : Wp (dRng2 d e s) Q R := by
  simp only [Wp_eq] at *
  exact FS.wp_rng2 h
theorem wp_zip {d : Cd (List PV)} {Q : Pq (List PV)} (h : Wp (d e s) (fun ps e s => ∃ xs, zip2 ps = some xs ∧ Q xs e s) R) : Wp (dZip d e s) Q R := by
  simp only [Wp_eq] at *
  exact FS.wp_zip h
theorem wp_while {c : Cd Bool} {b : Cd Flw} (I : Env → Stt → Prop) (m : Env → Stt → Nat) (h0 : I e s)
    (h1 : ∀ e s, I e s → Wp (c e s) (fun k e1 s1 => (k = true → Wp (b e1 s1) (LQ (fun e2 s2 => I e2 s2 ∧ m e2 s2 < m e s) QS) R) ∧ (k = false → QS .next e1 s1)) R) : Wp (dWhile c b e s) QS R := by
  simp only [Wp_eq] at *
  exact FS.wp_while I m h0 h1
theorem fn_run {n k : Nat} {b : Cd Flw} {ps : List PV} {s : Stt} {Q : PV → Stt → Prop} {R : Str → PV → Stt → Prop} (hl : ps.length = k) (h : Wp (b (ps.map Slot.val ++ List.replicate (n - k) Slot.none) s) (FQ Q) (fun c w _ s => R c w s)) : Fn (runD n k b ps s) Q R := by
  simp only [Wp_eq] at *
  exact FS.fn_run hl h
theorem wp_comp {items : Cd (List PV)} {own : List Nat} {g : PV → Cd Unit} {t : Cd Bool} {d : Cd PV} {QL : Pq (List PV)}
    (h : Wp (items e s) (fun ps e1 s => ∃ I : Nat → List PV → Env → Stt → Prop, I 0 [] (wipeE e1 own) s ∧
      (∀ (i : Nat) (p : PV) (acc : List PV) (e : Env) (s : Stt), ps[i]? = some p → I i acc e s → Wp (g p e s) (fun _ e s => Wp (t e s) (fun k e s => (k = true → Wp (d e s) (fun w e s => acc.length < sizeLine ∧ I (i + 1) (acc ++ [w]) (wipeE e own) s) (fun _ _ _ _ => False)) ∧ (k = false → I (i + 1) acc (wipeE e own) s)) (fun _ _ _ _ => False)) (fun _ _ _ _ => False)) ∧
      ∀ acc e2 s, I ps.length acc e2 s → QL acc (restE e1 e2 own) s) R) : Wp (dComp items own g t d e s) QL R := by
  simp only [Wp_eq] at *
  exact FS.wp_comp h
end
section
variable {α β : Type} {e : Env} {s : Stt} {R : Pr} {Q : Pq PV} {QL : Pq (List PV)} {QS : Pq Flw} {i j : Nat}
theorem wp_lenO {xs : List PV} (h : e[i]? = some (.own xs)) (hq : Q (.int xs.length) e s) : Wp (dLenO i e s) Q R := by
  simp only [Wp_eq] at *
  exact FS.wp_lenO h hq
theorem wp_lenV {p : PV} (h : e[i]? = some (.val p)) (hq : Wp (dFn fLen (dCons (dUse i) dNil) e s) Q R) : Wp (dLenO i e s) Q R := by
  simp only [Wp_eq] at *
  exact FS.wp_lenV h hq
theorem wp_ixO {ys : List PV} {db : Cd PV} (h : e[i]? = some (.own ys)) (hq : Wp (db e s) (fun k e s => ∃ xs j w, e[i]? = some (.own xs) ∧ k = .int j ∧ atI xs j = some w ∧ Q w e s) R) : Wp (dIxO i db e s) Q R := by
  simp only [Wp_eq] at *
  exact FS.wp_ixO h hq
theorem wp_ixV {p : PV} {db : Cd PV} (h : e[i]? = some (.val p)) (hq : Wp (dOp pIx (dUse i) db e s) Q R) : Wp (dIxO i db e s) Q R := by
  simp only [Wp_eq] at *
  exact FS.wp_ixV h hq
theorem wp_inO {neg : Bool} {da : Cd PV} (hq : Wp (da e s) (fun p e s => (∃ xs w, e[i]? = some (.own xs) ∧ inL neg p xs = some w ∧ Q w e s) ∨ (∃ q w, e[i]? = some (.val q) ∧ (if neg then pNotInA s p q else pInA s p q) = some w ∧ Q w e s)) R) : Wp (dInO neg da i e s) Q R := by
  simp only [Wp_eq] at *
  exact FS.wp_inO hq
theorem wp_mulL {da db : Cd PV} (h : Wp (da e s) (fun p e s => Wp (db e s) (fun q e s => ∃ xs k, p = .lst xs ∧ q = .int k ∧ (k < 1048576 ∧ -1048576 < k ∧ xs.length * k.toNat ≤ sizeLine) ∧ QL (List.replicate k.toNat xs).flatten e s) R) R) : Wp (dMulL da db e s) QL R := by
  simp only [Wp_eq] at *
  exact FS.wp_mulL h
theorem wp_catL {da db : Cd PV} (h : Wp (da e s) (fun p e s => Wp (db e s) (fun q e s => ∃ xs ys, p = .lst xs ∧ q = .lst ys ∧ xs.length + ys.length ≤ sizeLine ∧ QL (xs ++ ys) e s) R) R) : Wp (dCatL da db e s) QL R := by
  simp only [Wp_eq] at *
  exact FS.wp_catL h
theorem wp_cutL {d : Cd PV} {l h' : Cd (Option Int)} (h : Wp (d e s) (fun p e s => Wp (l e s) (fun l e s => Wp (h' e s) (fun u e s => ∃ xs, p = .lst xs ∧ QL (cutP xs l u) e s) R) R) R) : Wp (dCutL d l h' e s) QL R := by
  simp only [Wp_eq] at *
  exact FS.wp_cutL h
theorem wp_rngL {d : Cd (List PV)} (h : Wp (d e s) (fun ps e s => ∃ j, ps = [.int j] ∧ (okR j = true ∧ j ≤ 16777216) ∧ QL ((List.range j.toNat).map fun (i : Nat) => PV.int i) e s) R) : Wp (dRngL d e s) QL R := by
  simp only [Wp_eq] at *
  exact FS.wp_rngL h
theorem wp_ownNil {d : Cd (List PV)} (h : Wp (d e s) (fun xs e s => QS .next ((e.set i (.own xs)).set j (.own [])) s) R) : Wp (dOwnNil i j d e s) QS R := by
  simp only [Wp_eq] at *
  exact FS.wp_ownNil h
theorem wp_setNil {d : Cd PV} (h : Wp (d e s) (fun p e s => QS .next ((e.set i (.val p)).set j (.own [])) s) R) : Wp (dSetNil i j d e s) QS R := by
  simp only [Wp_eq] at *
  exact FS.wp_setNil h
theorem wp_zipM {d : Cd (List PV)} {Q : Pq (List PV)} (h : Wp (d e s) (fun ps e s => ∃ xs, zipM ps = some xs ∧ Q xs e s) R) : Wp (dZipM d e s) Q R := by
  simp only [Wp_eq] at *
  exact FS.wp_zipM h
theorem wp_enum {d : Cd (List PV)} {Q : Pq (List PV)} (h : Wp (d e s) (fun ps e s => ∃ xs, enumP ps = some xs ∧ Q xs e s) R) : Wp (dEnum d e s) Q R := by
  simp only [Wp_eq] at *
  exact FS.wp_enum h
end
section
variable {e : Env} {s : Stt} {R : Pr} {Q : Pq PV} {i : Nat}
theorem wp_useL (h : LkS e[i]? (fun p => Q p e s) (fun xs => Q (.lst xs) (e.set i (.val (.lst xs))) s)) : Wp (dUse i e s) Q R := by
  simp only [Wp_eq] at *
  exact FS.wp_useL h
theorem wp_lenL (h : LkS e[i]? (fun _ => Wp (dFn fLen (dCons (dUse i) dNil) e s) Q R) (fun xs => Q (.int xs.length) e s)) : Wp (dLenO i e s) Q R := by
  simp only [Wp_eq] at *
  exact FS.wp_lenL h
theorem wp_ixL {db : Cd PV} (h : LkS e[i]? (fun _ => Wp (dOp pIx (dUse i) db e s) Q R) (fun _ => Wp (db e s) (fun k e s => ∃ xs j w, e[i]? = some (.own xs) ∧ k = .int j ∧ atI xs j = some w ∧ Q w e s) R)) : Wp (dIxO i db e s) Q R := by
  simp only [Wp_eq] at *
  exact FS.wp_ixL h
theorem wp_mthL {mf : List PV → List PV → Option (PV × List PV)} {d : Cd (List PV)} (h : LkS e[i]? (fun _ => False) (fun _ => Wp (d e s) (fun ps e s => ∃ xs w xs', e[i]? = some (.own xs) ∧ mf xs ps = some (w, xs') ∧ Q w (e.set i (.own xs')) s) R)) : Wp (dMthO i mf d e s) Q R := by
  simp only [Wp_eq] at *
  exact FS.wp_mthL h
theorem wp_gtupC {n : Nat} {gs : List PV → Cd Unit} {ps : List PV} {Q : Pq Unit} (hl : ps.length = n) (h : Wp (gs ps e s) Q R) : Wp (gTupD n gs (.tup ps) e s) Q R := by
  simp only [Wp_eq] at *
  exact FS.wp_gtupC hl h
theorem wp_gtupZ {n : Nat} {gs : List PV → Cd Unit} {ps : List PV} {Q : Pq Unit} (hl : ps.length = n) (h : Wp (gs ps e s) Q R) : Wp (gTupD n gs (.tuz ps) e s) Q R := by
  simp only [Wp_eq] at *
  exact FS.wp_gtupZ hl h
end
theorem Wp.mono' {α : Type} {e : Env} {s : Stt} {d : Cd α} (Q : Pq α) (R : Pr) {Q' : Pq α} {R' : Pr} (h : Wp (d e s) Q R) (hq : ∀ a e s, Q a e s → Q' a e s) (hr : ∀ c w e s, R c w e s → R' c w e s) : Wp (d e s) Q' R' := by
  simp only [Wp_eq] at *
  exact FS.Wp.mono' Q R h hq hr
section
variable {α β : Type} {e : Env} {s : Stt} {R : Pr} {QS : Pq Flw} {Q : Pq PV}
theorem wp_par3 {i j l : Nat} {d : Cd (List PV)} (h : Wp (d e s) (fun ps e s => ∃ p q r, ps = [p, q, r] ∧ QS .next (((e.set i (.val p)).set j (.val q)).set l (.val r)) s) R) : Wp (dPar3 i j l d e s) QS R := by
  simp only [Wp_eq] at *
  exact FS.wp_par3 h
theorem wp_try {tab : List Str} {hs : List Hdl} {d : Cd Flw} (hd : Wp (d e s) QS (fun c w e s => tab.contains c = true ∧ Wp (hdl hs c w e s) QS R)) : Wp (dTry tab hs d e s) QS R := by
  simp only [Wp_eq] at *
  exact FS.wp_try hd
theorem wp_hskip {h : Str} {i : Option Nat} {dd : Str → Addr → Addr → Cd Flw} {r : List Hdl} {c : Str} {w : PV} (hc : catches h c = false) (hd : Wp (hdl r c w e s) QS R) : Wp (hdl (⟨h, i, dd⟩ :: r) c w e s) QS R := by
  simp only [Wp_eq] at *
  exact FS.wp_hskip hc hd
theorem wp_htake {h : Str} {i : Nat} {dd : Str → Addr → Addr → Cd Flw} {r : List Hdl} {c : Str} {w : PV} {o : Out Flw} (hc : catches h c = true) (hd : ∀ a b, clearO i (dd c a b (e.set i (.exc a b w)) s) = o) (ho : Wp o QS R) : Wp (hdl (⟨h, some i, dd⟩ :: r) c w e s) QS R := by
  simp only [Wp_eq] at *
  exact FS.wp_htake hc hd ho
theorem wp_hbare {h : Str} {dd : Str → Addr → Addr → Cd Flw} {r : List Hdl} {c : Str} {w : PV} (hc : catches h c = true) (hd : Wp (dd c 0 0 e s) QS (fun _ _ _ _ => False)) : Wp (hdl (⟨h, none, dd⟩ :: r) c w e s) QS R := by
  simp only [Wp_eq] at *
  exact FS.wp_hbare hc hd
theorem wp_act {n i : Nat} {f : Addr} {act : Stt → Res} (hl : e.length = n) (he : e[i]? = some (.val (.raw (.ref f)))) (h : Fn (act s) (fun p s => Q p e s) (fun c w s => R c w (List.replicate n .none) s)) : Wp (dAct n i f act e s) Q R := by
  simp only [Wp_eq] at *
  exact FS.wp_act hl he h
theorem wp_lam {den : Addr → (Stt → Res) → Stt → Res} {d : Cd PV} {v0 : PV → PV} {val : Str → PV → PV} {tab : List Str} (hden : ∀ (f : Addr) (act : Stt → Res) (s : Stt) (Q : PV → Stt → Prop), Fn (act s) (fun p s => Q (v0 p) s) (fun c w s => tab.contains c = true ∧ Q (val c w) s) → Fn (den f act s) Q noR)
    (h : Wp (d (hide e) s) (fun p _ s => Q (v0 p) e s) (fun c w _ s => tab.contains c = true ∧ Q (val c w) e s)) : Wp (dLam den d e s) Q R := by
  simp only [Wp_eq] at *
  exact FS.wp_lam hden h
end
theorem fn_lam {body : Cd Flw} {e : Env} {s : Stt} {Q : PV → Stt → Prop} {R : Str → PV → Stt → Prop} (h : Wp (body e s) (FQ Q) (fun c w _ s => R c w s)) : Fn (fin (body e s)) Q R := by
  simp only [Wp_eq] at *
  exact FS.fn_lam h
section
variable {α β : Type} {e : Env} {s : Stt} {R : Pr} {QS : Pq Flw} {Q : Pq PV} {i j l : Nat}
theorem wp_rng3 {d : Cd (List PV)} {Q : Pq (List PV)} (h : Wp (d e s) (fun ps e s => ∃ xs, rng3 ps = some xs ∧ Q xs e s) R) : Wp (dRng3 d e s) Q R := by
  simp only [Wp_eq] at *
  exact FS.wp_rng3 h
theorem wp_ownSet {da : Cd (List PV)} {db : Cd PV} (h : Wp (da e s) (fun xs e s => Wp (db e s) (fun q e s => QS .next ((e.set i (.own xs)).set j (.val q)) s) (fun _ _ _ _ => False)) R) : Wp (dOwnSet i j da db e s) QS R := by
  simp only [Wp_eq] at *
  exact FS.wp_ownSet h
theorem wp_setOwnNil {da : Cd PV} {db : Cd (List PV)} (h : Wp (da e s) (fun p e s => Wp (db e s) (fun xs e s => QS .next (((e.set i (.val p)).set j (.own xs)).set l (.own [])) s) R) R) : Wp (dSetOwnNil i j l da db e s) QS R := by
  simp only [Wp_eq] at *
  exact FS.wp_setOwnNil h
end
section
variable {α β : Type} {e : Env} {s : Stt} {R : Pr} {QS : Pq Flw} {Q : Pq PV}
theorem wp_count {da : Cd PV} {db : Cd (List PV)} (h : Wp (da e s) (fun p e s => ∃ xs ns, p = .tup xs ∧ intsOf xs = some ns ∧ Wp (db e s) (fun qs e s => ∃ i, qs = [.int i] ∧ Q (.int (ns.count i : Nat)) e s) R) R) : Wp (dCount da db e s) Q R := by
  simp only [Wp_eq] at *
  exact FS.wp_count h
theorem wp_sumG {d : Cd (List PV)} {q : Env → PV → Option PV} (h : Wp (d e s) (fun ps e s => ∃ rs ns, qMap q e ps = some rs ∧ intsOf rs = some ns ∧ few ns = true ∧ Q (.int ns.sum) e s) R) : Wp (dSumG d q e s) Q R := by
  simp only [Wp_eq] at *
  exact FS.wp_sumG h
theorem wp_allG {d : Cd (List PV)} {q : Env → PV → Option PV} (h : Wp (d e s) (fun ps e s => ∃ rs bs, qMap q e ps = some rs ∧ blsOf rs = some bs ∧ Q (.bl (bs.all id)) e s) R) : Wp (dAllG d q e s) Q R := by
  simp only [Wp_eq] at *
  exact FS.wp_allG h
end
section
variable {α β : Type} {e : Env} {s : Stt} {R : Pr} {QS : Pq Flw} {Q : Pq PV} {QL : Pq (List PV)}
theorem wp_all2 {d0 : Cd (List PV)} {g0 : PV → Cd Unit} {d1 : Cd (List PV)} {g1 : PV → Cd Unit} {de : Cd PV}
    (h : Wp (d0 e s) (fun ps e s => ∃ (I : Env → Stt → Prop) (J : PV → Env → Stt → Prop) (inn : PV → List PV) (f : PV → PV → Bool), I (.none :: .none :: hide e) s ∧
      (∀ p ∈ ps, ∀ e s, I e s → Wp (g0 p e s) (fun _ e s => Wp (d1 e s) (fun qs e s => qs = inn p ∧ qs.length ≤ 1024 ∧ J p e s) (fun _ _ _ _ => False)) (fun _ _ _ _ => False)) ∧
      (∀ p ∈ ps, ∀ q ∈ inn p, ∀ e s, J p e s → Wp (g1 q e s) (fun _ e s => Wp (de e s) (fun y e s => y = .bl (f p q) ∧ J p e s) (fun _ _ _ _ => False)) (fun _ _ _ _ => False)) ∧ (∀ p ∈ ps, ∀ e s, J p e s → I e s) ∧
      ∀ e' s', I e' s' → Q (.bl (ps.all fun p => (inn p).all (f p))) e s') R) : Wp (dAll2 d0 g0 d1 g1 de e s) Q R := by
  simp only [Wp_eq] at *
  exact FS.wp_all2 h
end
end I
end FS
set_option Elab.async false
set_option linter.all false
set_option maxRecDepth 100000
/-! FsStp: a step of a walk by one look-up (printed by our stp.py). -/
namespace FS
open PySem L2
namespace I
/-- g follows by p -/
class Stp (g : Prop) (p : outParam Prop) : Prop where
  imp : p → g
/-- .. by steps -/
class Run (g : Prop) (p : outParam Prop) : Prop where
  imp : p → g
theorem stp1 {g p : Prop} [a : Stp g p] (k : p) : g := a.imp k
theorem run1 {g q p : Prop} [a : Stp g q] [b : Run q p] (k : p) : g := a.imp (b.imp k)
instance (priority := low) run_id {g : Prop} : Run g g := ⟨fun h => h⟩
instance run_st {g q p : Prop} [a : Stp g q] [b : Run q p] : Run g p := ⟨fun h => a.imp (b.imp h)⟩
/-! frames as lists -/
class EvR (m : Nat) (r : outParam Env) : Prop where
  h : List.replicate m Slot.none = r
instance evr_0 : EvR 0 [] := ⟨rfl⟩
instance evr_s {m : Nat} {r : Env} [a : EvR m r] : EvR (m + 1) (.none :: r) := ⟨by rw [List.replicate_succ, a.h]⟩
class EvA (ps : List PV) (r : Env) (e : outParam Env) : Prop where
  h : ps.map Slot.val ++ r = e
instance eva_0 {r : Env} : EvA [] r r := ⟨rfl⟩
instance eva_s {p : PV} {ps : List PV} {r e : Env} [a : EvA ps r e] : EvA (p :: ps) r (.val p :: e) := ⟨by rw [List.map_cons, List.cons_append, a.h]⟩
class EvS (e : Env) (i : Nat) (v : Slot) (e' : outParam Env) : Prop where
  h : e.set i v = e'
instance evs_0 {a v : Slot} {e : Env} : EvS (a :: e) 0 v (v :: e) := ⟨rfl⟩
instance evs_s {a v : Slot} {e e' : Env} {i : Nat} [k : EvS e i v e'] : EvS (a :: e) (i + 1) v (a :: e') := ⟨by rw [List.set_cons_succ, k.h]⟩
class Evn (e : Env) (e' : outParam Env) : Prop where
  h : e = e'
instance (priority := low) evn_id {e : Env} : Evn e e := ⟨rfl⟩
instance evn_c {a : Slot} {e : Env} : Evn (a :: e) (a :: e) := ⟨rfl⟩
instance evn_s {e e1 e2 : Env} {i : Nat} {v : Slot} [a : Evn e e1] [b : EvS e1 i v e2] : Evn (e.set i v) e2 := ⟨by rw [a.h, b.h]⟩
instance evn_r {ps : List PV} {m : Nat} {r e : Env} [a : EvR m r] [b : EvA ps r e] : Evn (ps.map Slot.val ++ List.replicate m Slot.none) e := ⟨by rw [a.h, b.h]⟩
/-- what a place holds -/
class Lk (e : Env) (i : Nat) (v : outParam Slot) : Prop where
  h : e[i]? = some v
instance lk_0 {a : Slot} {e : Env} : Lk (a :: e) 0 a := ⟨rfl⟩
instance lk_s {a v : Slot} {e : Env} {i : Nat} [k : Lk e i v] : Lk (a :: e) (i + 1) v := ⟨by rw [List.getElem?_cons_succ]; exact k.h⟩
/-! lengths of displays -/
class Len (ps : List PV) (n : outParam Nat) : Prop where
  h : ps.length = n
instance len_0 : Len [] 0 := ⟨rfl⟩
instance len_s {p : PV} {ps : List PV} {n : Nat} [a : Len ps n] : Len (p :: ps) (n + 1) := ⟨by rw [List.length_cons, a.h]⟩
class LenLe (ps : List PV) (n : Nat) : Prop where
  h : ps.length ≤ n
instance lenle_0 {n : Nat} : LenLe [] n := ⟨Nat.zero_le _⟩
instance lenle_s {p : PV} {ps : List PV} {n : Nat} [a : LenLe ps n] : LenLe (p :: ps) (n + 1) := ⟨Nat.succ_le_succ a.h⟩
class LenEq (ps : List PV) (n : Nat) : Prop where
  h : ps.length = n
instance leneq_0 : LenEq [] 0 := ⟨rfl⟩
instance leneq_s {p : PV} {ps : List PV} {n : Nat} [a : LenEq ps n] : LenEq (p :: ps) (n + 1) := ⟨by rw [List.length_cons, a.h]⟩
section
variable {α β : Type} {e : Env} {s : Stt} {R : Pr} {QS : Pq Flw} {Q : Pq PV}
instance st_seq {a b : Cd Flw} {e' : Env} [n : Evn e e'] : Stp (Wp (dSeq a b e s) QS R) (Wp (a e' s) (SQ (fun e s => Wp (b e s) QS R) QS) R) := ⟨fun h => by rw [n.h]; exact wp_seq h⟩
instance st_nxt : Stp (Wp (nxt e s) QS R) (QS .next e s) := ⟨fun h => wp_nxt h⟩
instance st_sq {K : Env → Stt → Prop} {Q : Pq Flw} : Stp (SQ K Q .next e s) (K e s) := ⟨fun h => wp_sq h⟩
instance st_use {i : Nat} {p : PV} {e' : Env} [n : Evn e e'] [k : Lk e' i (.val p)] : Stp (Wp (dUse i e s) Q R) (Q p e' s) := ⟨fun h => by rw [n.h]; exact wp_use k.h h⟩
instance st_useO {i : Nat} {xs : List PV} {e1 e2 : Env} [n : Evn e e1] [k : Lk e1 i (.own xs)] [u : EvS e1 i (.val (.lst xs)) e2] : Stp (Wp (dUse i e s) Q R) (Q (.lst xs) e2 s) := ⟨fun h => by rw [n.h]; refine wp_useO k.h ?_; rw [u.h]; exact h⟩
instance st_lenV {i : Nat} {p : PV} {e' : Env} [n : Evn e e'] [k : Lk e' i (.val p)] : Stp (Wp (dLenO i e s) Q R) (Wp (dFn fLen (dCons (dUse i) dNil) e' s) Q R) := ⟨fun h => by rw [n.h]; exact wp_lenV k.h h⟩
instance st_lenO {i : Nat} {xs : List PV} {e' : Env} [n : Evn e e'] [k : Lk e' i (.own xs)] : Stp (Wp (dLenO i e s) Q R) (Q (.int xs.length) e' s) := ⟨fun h => by rw [n.h]; exact wp_lenO k.h h⟩
instance st_ixV {i : Nat} {p : PV} {db : Cd PV} {e' : Env} [n : Evn e e'] [k : Lk e' i (.val p)] : Stp (Wp (dIxO i db e s) Q R) (Wp (dOp pIx (dUse i) db e' s) Q R) := ⟨fun h => by rw [n.h]; exact wp_ixV k.h h⟩
instance st_ixO {i : Nat} {ys : List PV} {db : Cd PV} {e' : Env} [n : Evn e e'] [k : Lk e' i (.own ys)] : Stp (Wp (dIxO i db e s) Q R) (Wp (db e' s) (fun k e s => ∃ xs j w, e[i]? = some (.own xs) ∧ k = .int j ∧ atI xs j = some w ∧ Q w e s) R) := ⟨fun h => by rw [n.h]; exact wp_ixO k.h h⟩
instance st_mthO {i : Nat} {mf : List PV → List PV → Option (PV × List PV)} {d : Cd (List PV)} {ys : List PV} {e' : Env} [n : Evn e e'] [k : Lk e' i (.own ys)] : Stp (Wp (dMthO i mf d e s) Q R) (Wp (d e' s) (fun ps e s => ∃ xs w xs', e[i]? = some (.own xs) ∧ mf xs ps = some (w, xs') ∧ Q w (e.set i (.own xs')) s) R) := ⟨fun h => by rw [n.h]; exact wp_mthO k.h h⟩
instance st_own1 {i : Nat} {ys : List PV} {A : List PV → Prop} {e' : Env} [n : Evn e e'] [k : Lk e' i (.own ys)] : Stp (∃ ys, e[i]? = some (.own ys) ∧ A ys) (A ys) := ⟨fun h => ⟨ys, by rw [n.h]; exact k.h, h⟩⟩
instance st_low {ps : List PV} {A : Prop} [k : LenLe ps 64] : Stp (ps.length ≤ sizeLine ∧ A) A := ⟨fun h => ⟨Nat.le_trans k.h (Nat.le_of_ble_eq_true rfl), h⟩⟩
instance st_num {ps : List PV} {n : Nat} {A : Prop} [k : LenEq ps n] : Stp (ps.length = n ∧ A) A := ⟨fun h => ⟨k.h, h⟩⟩
instance st_part {i : Int} {Q : Int → Prop} : Stp (∃ j, PV.int i = .int j ∧ Q j) (Q i) := ⟨fun h => ⟨i, rfl, h⟩⟩
instance st_par {p q : PV} {A : PV → PV → Prop} : Stp (∃ p' q', [p, q] = [p', q'] ∧ A p' q') (A p q) := ⟨fun h => ⟨p, q, rfl, h⟩⟩
instance st_gtupC {n : Nat} {gs : List PV → Cd Unit} {ps : List PV} {Q : Pq Unit} [k : LenEq ps n] : Stp (Wp (gTupD n gs (.tup ps) e s) Q R) (Wp (gs ps e s) Q R) := ⟨fun h => wp_gtupC k.h h⟩
instance st_gtupZ {n : Nat} {gs : List PV → Cd Unit} {ps : List PV} {Q : Pq Unit} [k : LenEq ps n] : Stp (Wp (gTupD n gs (.tuz ps) e s) Q R) (Wp (gs ps e s) Q R) := ⟨fun h => wp_gtupZ k.h h⟩
instance st_chpLt {a b : Int} {A : Bool → Prop} : Stp (∃ k, pLt s (.int a) (.int b) = some (.bl k) ∧ A k) (A (decide (a < b))) := ⟨fun h => ⟨_, rfl, h⟩⟩
instance st_chpLe {a b : Int} {A : Bool → Prop} : Stp (∃ k, pLe s (.int a) (.int b) = some (.bl k) ∧ A k) (A (decide (a ≤ b))) := ⟨fun h => ⟨_, rfl, h⟩⟩
instance st_chpGt {a b : Int} {A : Bool → Prop} : Stp (∃ k, pGt s (.int a) (.int b) = some (.bl k) ∧ A k) (A (decide (b < a))) := ⟨fun h => ⟨_, rfl, h⟩⟩
instance st_chpGe {a b : Int} {A : Bool → Prop} : Stp (∃ k, pGe s (.int a) (.int b) = some (.bl k) ∧ A k) (A (decide (b ≤ a))) := ⟨fun h => ⟨_, rfl, h⟩⟩
end
instance st_wp_ret {α : Type} {e : Env} {s : Stt} {R : Pr} {a : α} {Q : Pq α} : Stp (Wp (ret a e s) Q R) (Q a e s) := ⟨fun h => wp_ret h⟩
instance st_wp_op {e : Env} {s : Stt} {R : Pr} {Q : Pq PV} {f : Stt → PV → PV → Option PV} {a b : Cd PV} : Stp (Wp (dOp f a b e s) Q R) (Wp (a e s) (fun p e s => Wp (b e s) (fun q e s => ∃ w, f s p q = some w ∧ Q w e s) R) R) := ⟨fun h => wp_op h⟩
instance st_wp_un {e : Env} {s : Stt} {R : Pr} {Q : Pq PV} {f : PV → Option PV} {a : Cd PV} : Stp (Wp (dUn f a e s) Q R) (Wp (a e s) (fun p e s => ∃ w, f p = some w ∧ Q w e s) R) := ⟨fun h => wp_un h⟩
instance st_wp_nil {e : Env} {s : Stt} {R : Pr} {Q : Pq (List PV)} : Stp (Wp (dNil e s) Q R) (Q [] e s) := ⟨fun h => wp_nil h⟩
instance st_wp_cons {e : Env} {s : Stt} {R : Pr} {a : Cd PV} {r : Cd (List PV)} {Q : Pq (List PV)} : Stp (Wp (dCons a r e s) Q R) (Wp (a e s) (fun p e s => Wp (r e s) (fun ps e s => Q (p :: ps) e s) R) R) := ⟨fun h => wp_cons h⟩
instance st_wp_tup {e : Env} {s : Stt} {R : Pr} {Q : Pq PV} {d : Cd (List PV)} : Stp (Wp (dTup d e s) Q R) (Wp (d e s) (fun ps e s => ps.length ≤ sizeLine ∧ Q (.tup ps) e s) R) := ⟨fun h => wp_tup h⟩
instance st_wp_disp {e : Env} {s : Stt} {R : Pr} {d : Cd (List PV)} {Q : Pq (List PV)} : Stp (Wp (dDisp d e s) Q R) (Wp (d e s) (fun ps e s => ps.length ≤ sizeLine ∧ Q ps e s) R) := ⟨fun h => wp_disp h⟩
instance st_wp_frz {e : Env} {s : Stt} {R : Pr} {Q : Pq PV} {d : Cd (List PV)} : Stp (Wp (dFrz d e s) Q R) (Wp (d e s) (fun ps e s => Q (.lst ps) e s) R) := ⟨fun h => wp_frz h⟩
instance st_wp_new {e : Env} {s : Stt} {R : Pr} {Q : Pq PV} {d : Cd (List PV)} : Stp (Wp (dNew d e s) Q R) (Wp (d e s) (fun xs e s => Q (.ref s.length) e (s ++ [.lst xs])) R) := ⟨fun h => wp_new h⟩
instance st_wp_b {e : Env} {s : Stt} {R : Pr} {d : Cd PV} {Q : Pq Bool} : Stp (Wp (dB d e s) Q R) (Wp (d e s) (fun p e s => ∃ b, asB p = some b ∧ Q b e s) R) := ⟨fun h => wp_b h⟩
instance st_wp_tru {e : Env} {s : Stt} {R : Pr} {d : Cd PV} {Q : Pq Bool} : Stp (Wp (dTru d e s) Q R) (Wp (d e s) (fun p e s => ∃ b, tru s p = some b ∧ Q b e s) R) := ⟨fun h => wp_tru h⟩
instance st_wp_notT {e : Env} {s : Stt} {R : Pr} {d : Cd Bool} {Q : Pq Bool} : Stp (Wp (dNotT d e s) Q R) (Wp (d e s) (fun b e s => Q (!b) e s) R) := ⟨fun h => wp_notT h⟩
instance st_wp_andT {e : Env} {s : Stt} {R : Pr} {d r : Cd Bool} {Q : Pq Bool} : Stp (Wp (dAndT d r e s) Q R) (Wp (d e s) (fun b e s => (b = true → Wp (r e s) Q R) ∧ (b = false → Q false e s)) R) := ⟨fun h => wp_andT h⟩
instance st_wp_orT {e : Env} {s : Stt} {R : Pr} {d r : Cd Bool} {Q : Pq Bool} : Stp (Wp (dOrT d r e s) Q R) (Wp (d e s) (fun b e s => (b = true → Q true e s) ∧ (b = false → Wp (r e s) Q R)) R) := ⟨fun h => wp_orT h⟩
instance st_wp_andV {e : Env} {s : Stt} {R : Pr} {Q : Pq PV} {d r : Cd PV} : Stp (Wp (dAndV d r e s) Q R) (Wp (d e s) (fun p e s => ∃ b, asB p = some b ∧ (b = true → Wp (r e s) Q R) ∧ (b = false → Q (.bl false) e s)) R) := ⟨fun h => wp_andV h⟩
instance st_wp_orV {e : Env} {s : Stt} {R : Pr} {Q : Pq PV} {d r : Cd PV} : Stp (Wp (dOrV d r e s) Q R) (Wp (d e s) (fun p e s => ∃ b, asB p = some b ∧ (b = true → Q (.bl true) e s) ∧ (b = false → Wp (r e s) Q R)) R) := ⟨fun h => wp_orV h⟩
instance st_wp_notV {e : Env} {s : Stt} {R : Pr} {Q : Pq PV} {d : Cd PV} : Stp (Wp (dNotV d e s) Q R) (Wp (d e s) (fun p e s => ∃ b, asB p = some b ∧ Q (.bl (!b)) e s) R) := ⟨fun h => wp_notV h⟩
instance st_wp_ife {e : Env} {s : Stt} {R : Pr} {Q : Pq PV} {t : Cd Bool} {a b : Cd PV} : Stp (Wp (dIfE t a b e s) Q R) (Wp (t e s) (fun k e s => (k = true → Wp (a e s) Q R) ∧ (k = false → Wp (b e s) Q R)) R) := ⟨fun h => wp_ife h⟩
instance st_wp_chain {e : Env} {s : Stt} {R : Pr} {Q : Pq PV} {f f' : Stt → PV → PV → Option PV} {a b c : Cd PV} : Stp (Wp (dChain f f' a b c e s) Q R) (Wp (a e s) (fun p e s => Wp (b e s) (fun q e s => ∃ k, f s p q = some (.bl k) ∧ (k = true → Wp (c e s) (fun r e s => ∃ w, f' s q r = some w ∧ Q w e s) R) ∧ (k = false → Q (.bl false) e s)) R) R) := ⟨fun h => wp_chain h⟩
instance st_wp_fn {e : Env} {s : Stt} {R : Pr} {Q : Pq PV} {g : Stt → List PV → Option PV} {d : Cd (List PV)} : Stp (Wp (dFn g d e s) Q R) (Wp (d e s) (fun ps e s => ∃ w, g s ps = some w ∧ Q w e s) R) := ⟨fun h => wp_fn h⟩
instance st_wp_call {e : Env} {s : Stt} {R : Pr} {Q : Pq PV} {n : Nat} {den : List PV → Stt → Res} {d : Cd (List PV)} : Stp (Wp (dCall n den d e s) Q R) (Wp (d e s) (fun ps e s => ps.length = n ∧ Fn (den ps s) (fun p s => Q p e s) (fun c w s => R c w e s)) R) := ⟨fun h => wp_call h⟩
instance st_wp_noPart {e : Env} {s : Stt} {R : Pr} {Q : Pq (Option Int)} : Stp (Wp (dNoPart e s) Q R) (Q none e s) := ⟨fun h => wp_noPart h⟩
instance st_wp_part {e : Env} {s : Stt} {R : Pr} {d : Cd PV} {Q : Pq (Option Int)} : Stp (Wp (dPart d e s) Q R) (Wp (d e s) (fun p e s => ∃ i, p = .int i ∧ Q (some i) e s) R) := ⟨fun h => wp_part h⟩
instance st_wp_cut {e : Env} {s : Stt} {R : Pr} {Q : Pq PV} {d : Cd PV} {l h' : Cd (Option Int)} : Stp (Wp (dCut d l h' e s) Q R) (Wp (d e s) (fun p e s => Wp (l e s) (fun l e s => Wp (h' e s) (fun u e s => ∃ w, pCut s p l u = some w ∧ Q w e s) R) R) R) := ⟨fun h => wp_cut h⟩
instance st_wp_list {e : Env} {s : Stt} {R : Pr} {d : Cd PV} {Q : Pq (List PV)} : Stp (Wp (dListF d e s) Q R) (Wp (d e s) (fun p e s => ∃ xs, itemsOf s p = some xs ∧ Q xs e s) R) := ⟨fun h => wp_list h⟩
instance st_wp_mthR {e : Env} {s : Stt} {R : Pr} {Q : Pq PV} {mf : List PV → List PV → Option (PV × List PV)} {o : Cd PV} {d : Cd (List PV)} : Stp (Wp (dMthR mf o d e s) Q R) (Wp (o e s) (fun p e s => ∃ n ys, p = .ref n ∧ s[n]? = some (.lst ys) ∧ Wp (d e s) (fun ps e s => ∃ xs w xs', s[n]? = some (.lst xs) ∧ mf xs ps = some (w, xs') ∧ Q w e (s.set n (.lst xs'))) R) R) := ⟨fun h => wp_mthR h⟩
instance st_wp_drop {e : Env} {s : Stt} {R : Pr} {QS : Pq Flw} {d : Cd PV} : Stp (Wp (dDrop d e s) QS R) (Wp (d e s) (fun _ e s => QS .next e s) R) := ⟨fun h => wp_drop h⟩
instance st_wp_dret {e : Env} {s : Stt} {R : Pr} {QS : Pq Flw} {d : Cd PV} : Stp (Wp (dRet d e s) QS R) (Wp (d e s) (fun p e s => QS (.ret p) e s) R) := ⟨fun h => wp_dret h⟩
instance st_wp_if {e : Env} {s : Stt} {R : Pr} {QS : Pq Flw} {t : Cd Bool} {a b : Cd Flw} : Stp (Wp (dIf t a b e s) QS R) (Wp (t e s) (fun k e s => (k = true → Wp (a e s) QS R) ∧ (k = false → Wp (b e s) QS R)) R) := ⟨fun h => wp_if h⟩
instance st_wp_set {e : Env} {s : Stt} {R : Pr} {QS : Pq Flw} {d : Cd PV} {i : Nat} : Stp (Wp (dSet i d e s) QS R) (Wp (d e s) (fun p e s => QS .next (e.set i (.val p)) s) R) := ⟨fun h => wp_set h⟩
instance st_wp_own {e : Env} {s : Stt} {R : Pr} {QS : Pq Flw} {i : Nat} {d : Cd (List PV)} : Stp (Wp (dOwn i d e s) QS R) (Wp (d e s) (fun xs e s => QS .next (e.set i (.own xs)) s) R) := ⟨fun h => wp_own h⟩
instance st_wp_asg {e : Env} {s : Stt} {R : Pr} {QS : Pq Flw} {d : Cd PV} {g : PV → Cd Unit} : Stp (Wp (dAsg d g e s) QS R) (Wp (d e s) (fun p e s => Wp (g p e s) (fun _ e s => QS .next e s) R) R) := ⟨fun h => wp_asg h⟩
instance st_wp_gset {e : Env} {s : Stt} {R : Pr} {i : Nat} {p : PV} {Q : Pq Unit} : Stp (Wp (gSet i p e s) Q R) (Q () (e.set i (.val p)) s) := ⟨fun h => wp_gset h⟩
instance st_wp_gcons {e : Env} {s : Stt} {R : Pr} {g : PV → Cd Unit} {gs : List PV → Cd Unit} {p : PV} {ps : List PV} {Q : Pq Unit} : Stp (Wp (gsCons g gs (p :: ps) e s) Q R) (Wp (g p e s) (fun _ e s => Wp (gs ps e s) Q R) R) := ⟨fun h => wp_gcons h⟩
instance st_wp_gnil {e : Env} {s : Stt} {R : Pr} {Q : Pq Unit} : Stp (Wp (gsNil [] e s) Q R) (Q () e s) := ⟨fun h => wp_gnil h⟩
instance st_wp_par {e : Env} {s : Stt} {R : Pr} {QS : Pq Flw} {i j : Nat} {d : Cd (List PV)} : Stp (Wp (dPar i j d e s) QS R) (Wp (d e s) (fun ps e s => ∃ p q, ps = [p, q] ∧ QS .next ((e.set i (.val p)).set j (.val q)) s) R) := ⟨fun h => wp_par h⟩
instance st_wp_setO {e : Env} {s : Stt} {R : Pr} {QS : Pq Flw} {i : Nat} {di dv : Cd PV} : Stp (Wp (dSetO i di dv e s) QS R) (Wp (dv e s) (fun w e s => ∃ ys, e[i]? = some (.own ys) ∧ Wp (di e s) (fun k e s => ∃ xs j m, e[i]? = some (.own xs) ∧ k = .int j ∧ ixN xs.length j = some m ∧ QS .next (e.set i (.own (xs.set m w))) s) R) R) := ⟨fun h => wp_setO h⟩
instance st_wp_setR {e : Env} {s : Stt} {R : Pr} {QS : Pq Flw} {o di dv : Cd PV} : Stp (Wp (dSetR o di dv e s) QS R) (Wp (dv e s) (fun w e s => Wp (o e s) (fun p e s => Wp (di e s) (fun k e s => ∃ n xs j m, p = .ref n ∧ k = .int j ∧ s[n]? = some (.lst xs) ∧ ixN xs.length j = some m ∧ QS .next e (s.set n (.lst (xs.set m w)))) R) R) R) := ⟨fun h => wp_setR h⟩
instance st_wp_raise {e : Env} {s : Stt} {R : Pr} {QS : Pq Flw} {d : Cd PV} {c : Str} : Stp (Wp (dRaise c d e s) QS R) (Wp (d e s) (fun p e s => R c p e s) R) := ⟨fun h => wp_raise h⟩
instance st_wp_items {e : Env} {s : Stt} {R : Pr} {d : Cd PV} {Q : Pq (List PV)} : Stp (Wp (dItems d e s) Q R) (Wp (d e s) (fun p e s => ∃ xs, itemsF p = some xs ∧ Q xs e s) R) := ⟨fun h => wp_items h⟩
instance st_wp_rng1 {e : Env} {s : Stt} {R : Pr} {d : Cd (List PV)} {Q : Pq (List PV)} : Stp (Wp (dRng1 d e s) Q R) (Wp (d e s) (fun ps e s => ∃ xs, rng1 ps = some xs ∧ Q xs e s) R) := ⟨fun h => wp_rng1 h⟩
instance st_wp_rng2 {e : Env} {s : Stt} {R : Pr} {d : Cd (List PV)} {Q : Pq (List PV)} : Stp (Wp (dRng2 d e s) Q R) (Wp (d e s) (fun ps e s => ∃ xs, rng2 ps = some xs ∧ Q xs e s) R) := ⟨fun h => wp_rng2 h⟩
instance st_wp_zip {e : Env} {s : Stt} {R : Pr} {d : Cd (List PV)} {Q : Pq (List PV)} : Stp (Wp (dZip d e s) Q R) (Wp (d e s) (fun ps e s => ∃ xs, zip2 ps = some xs ∧ Q xs e s) R) := ⟨fun h => wp_zip h⟩
instance st_wp_inO {e : Env} {s : Stt} {R : Pr} {Q : Pq PV} {i : Nat} {neg : Bool} {da : Cd PV} : Stp (Wp (dInO neg da i e s) Q R) (Wp (da e s) (fun p e s => (∃ xs w, e[i]? = some (.own xs) ∧ inL neg p xs = some w ∧ Q w e s) ∨ (∃ q w, e[i]? = some (.val q) ∧ (if neg then pNotInA s p q else pInA s p q) = some w ∧ Q w e s)) R) := ⟨fun h => wp_inO h⟩
instance st_wp_mulL {e : Env} {s : Stt} {R : Pr} {QL : Pq (List PV)} {da db : Cd PV} : Stp (Wp (dMulL da db e s) QL R) (Wp (da e s) (fun p e s => Wp (db e s) (fun q e s => ∃ xs k, p = .lst xs ∧ q = .int k ∧ (k < 1048576 ∧ -1048576 < k ∧ xs.length * k.toNat ≤ sizeLine) ∧ QL (List.replicate k.toNat xs).flatten e s) R) R) := ⟨fun h => wp_mulL h⟩
instance st_wp_catL {e : Env} {s : Stt} {R : Pr} {QL : Pq (List PV)} {da db : Cd PV} : Stp (Wp (dCatL da db e s) QL R) (Wp (da e s) (fun p e s => Wp (db e s) (fun q e s => ∃ xs ys, p = .lst xs ∧ q = .lst ys ∧ xs.length + ys.length ≤ sizeLine ∧ QL (xs ++ ys) e s) R) R) := ⟨fun h => wp_catL h⟩
instance st_wp_cutL {e : Env} {s : Stt} {R : Pr} {QL : Pq (List PV)} {d : Cd PV} {l h' : Cd (Option Int)} : Stp (Wp (dCutL d l h' e s) QL R) (Wp (d e s) (fun p e s => Wp (l e s) (fun l e s => Wp (h' e s) (fun u e s => ∃ xs, p = .lst xs ∧ QL (cutP xs l u) e s) R) R) R) := ⟨fun h => wp_cutL h⟩
instance st_wp_rngL {e : Env} {s : Stt} {R : Pr} {QL : Pq (List PV)} {d : Cd (List PV)} : Stp (Wp (dRngL d e s) QL R) (Wp (d e s) (fun ps e s => ∃ j, ps = [.int j] ∧ (okR j = true ∧ j ≤ 16777216) ∧ QL ((List.range j.toNat).map fun (i : Nat) => PV.int i) e s) R) := ⟨fun h => wp_rngL h⟩
instance st_wp_ownNil {e : Env} {s : Stt} {R : Pr} {QS : Pq Flw} {i : Nat} {j : Nat} {d : Cd (List PV)} : Stp (Wp (dOwnNil i j d e s) QS R) (Wp (d e s) (fun xs e s => QS .next ((e.set i (.own xs)).set j (.own [])) s) R) := ⟨fun h => wp_ownNil h⟩
instance st_wp_setNil {e : Env} {s : Stt} {R : Pr} {QS : Pq Flw} {i : Nat} {j : Nat} {d : Cd PV} : Stp (Wp (dSetNil i j d e s) QS R) (Wp (d e s) (fun p e s => QS .next ((e.set i (.val p)).set j (.own [])) s) R) := ⟨fun h => wp_setNil h⟩
instance st_wp_zipM {e : Env} {s : Stt} {R : Pr} {d : Cd (List PV)} {Q : Pq (List PV)} : Stp (Wp (dZipM d e s) Q R) (Wp (d e s) (fun ps e s => ∃ xs, zipM ps = some xs ∧ Q xs e s) R) := ⟨fun h => wp_zipM h⟩
instance st_wp_enum {e : Env} {s : Stt} {R : Pr} {d : Cd (List PV)} {Q : Pq (List PV)} : Stp (Wp (dEnum d e s) Q R) (Wp (d e s) (fun ps e s => ∃ xs, enumP ps = some xs ∧ Q xs e s) R) := ⟨fun h => wp_enum h⟩
instance st_wp_par3 {e : Env} {s : Stt} {R : Pr} {QS : Pq Flw} {i j l : Nat} {d : Cd (List PV)} : Stp (Wp (dPar3 i j l d e s) QS R) (Wp (d e s) (fun ps e s => ∃ p q r, ps = [p, q, r] ∧ QS .next (((e.set i (.val p)).set j (.val q)).set l (.val r)) s) R) := ⟨fun h => wp_par3 h⟩
instance st_wp_rng3 {e : Env} {s : Stt} {R : Pr} {d : Cd (List PV)} {Q : Pq (List PV)} : Stp (Wp (dRng3 d e s) Q R) (Wp (d e s) (fun ps e s => ∃ xs, rng3 ps = some xs ∧ Q xs e s) R) := ⟨fun h => wp_rng3 h⟩
instance st_wp_ownSet {e : Env} {s : Stt} {R : Pr} {QS : Pq Flw} {i : Nat} {j : Nat} {da : Cd (List PV)} {db : Cd PV} : Stp (Wp (dOwnSet i j da db e s) QS R) (Wp (da e s) (fun xs e s => Wp (db e s) (fun q e s => QS .next ((e.set i (.own xs)).set j (.val q)) s) (fun _ _ _ _ => False)) R) := ⟨fun h => wp_ownSet h⟩
instance st_wp_setOwnNil {e : Env} {s : Stt} {R : Pr} {QS : Pq Flw} {i : Nat} {j : Nat} {l : Nat} {da : Cd PV} {db : Cd (List PV)} : Stp (Wp (dSetOwnNil i j l da db e s) QS R) (Wp (da e s) (fun p e s => Wp (db e s) (fun xs e s => QS .next (((e.set i (.val p)).set j (.own xs)).set l (.own [])) s) R) R) := ⟨fun h => wp_setOwnNil h⟩
instance st_wp_count {e : Env} {s : Stt} {R : Pr} {Q : Pq PV} {da : Cd PV} {db : Cd (List PV)} : Stp (Wp (dCount da db e s) Q R) (Wp (da e s) (fun p e s => ∃ xs ns, p = .tup xs ∧ intsOf xs = some ns ∧ Wp (db e s) (fun qs e s => ∃ i, qs = [.int i] ∧ Q (.int (ns.count i : Nat)) e s) R) R) := ⟨fun h => wp_count h⟩
instance st_wp_sumG {e : Env} {s : Stt} {R : Pr} {Q : Pq PV} {d : Cd (List PV)} {q : Env → PV → Option PV} : Stp (Wp (dSumG d q e s) Q R) (Wp (d e s) (fun ps e s => ∃ rs ns, qMap q e ps = some rs ∧ intsOf rs = some ns ∧ few ns = true ∧ Q (.int ns.sum) e s) R) := ⟨fun h => wp_sumG h⟩
instance st_wp_allG {e : Env} {s : Stt} {R : Pr} {Q : Pq PV} {d : Cd (List PV)} {q : Env → PV → Option PV} : Stp (Wp (dAllG d q e s) Q R) (Wp (d e s) (fun ps e s => ∃ rs bs, qMap q e ps = some rs ∧ blsOf rs = some bs ∧ Q (.bl (bs.all id)) e s) R) := ⟨fun h => wp_allG h⟩
instance st_x_add {s : Stt} {Q : PV → Prop} {a : Int} {b : Int} : Stp (∃ w, pAdd s (.int a) (.int b) = some w ∧ Q w) (Q (.int (a + b))) := ⟨fun h => FS.x_add h⟩
instance st_x_sub {s : Stt} {Q : PV → Prop} {a : Int} {b : Int} : Stp (∃ w, pSub s (.int a) (.int b) = some w ∧ Q w) (Q (.int (a - b))) := ⟨fun h => FS.x_sub h⟩
instance st_x_lt {s : Stt} {Q : PV → Prop} {a : Int} {b : Int} : Stp (∃ w, pLt s (.int a) (.int b) = some w ∧ Q w) (Q (.bl (decide (a < b)))) := ⟨fun h => FS.x_lt h⟩
instance st_x_le {s : Stt} {Q : PV → Prop} {a : Int} {b : Int} : Stp (∃ w, pLe s (.int a) (.int b) = some w ∧ Q w) (Q (.bl (decide (a ≤ b)))) := ⟨fun h => FS.x_le h⟩
instance st_x_gt {s : Stt} {Q : PV → Prop} {a : Int} {b : Int} : Stp (∃ w, pGt s (.int a) (.int b) = some w ∧ Q w) (Q (.bl (decide (b < a)))) := ⟨fun h => FS.x_gt h⟩
instance st_x_ge {s : Stt} {Q : PV → Prop} {a : Int} {b : Int} : Stp (∃ w, pGe s (.int a) (.int b) = some w ∧ Q w) (Q (.bl (decide (b ≤ a)))) := ⟨fun h => FS.x_ge h⟩
instance st_x_eq {s : Stt} {Q : PV → Prop} {a : Int} {b : Int} : Stp (∃ w, pEq s (.int a) (.int b) = some w ∧ Q w) (Q (.bl (decide (a = b)))) := ⟨fun h => FS.x_eq h⟩
instance st_x_ne {s : Stt} {Q : PV → Prop} {a : Int} {b : Int} : Stp (∃ w, pNe s (.int a) (.int b) = some w ∧ Q w) (Q (.bl (!decide (a = b)))) := ⟨fun h => FS.x_ne h⟩
instance st_x_neg {Q : PV → Prop} {a : Int} : Stp (∃ w, pNeg (.int a) = some w ∧ Q w) (Q (.int (-a))) := ⟨fun h => FS.x_neg h⟩
instance st_x_bl {k : Bool} {Q : Bool → Prop} : Stp (∃ b, asB (.bl k) = some b ∧ Q b) (Q k) := ⟨fun h => FS.x_bl h⟩
instance st_x_truB {s : Stt} {k : Bool} {Q : Bool → Prop} : Stp (∃ b, tru s (.bl k) = some b ∧ Q b) (Q k) := ⟨fun h => FS.x_truB h⟩
instance st_wp_sqr {K : Env → Stt → Prop} {Q : Pq Flw} {p : PV} {e : Env} {s : Stt} : Stp (SQ K Q (.ret p) e s) (Q (.ret p) e s) := ⟨fun h => FS.wp_sqr h⟩
instance st_wp_lq {I : Env → Stt → Prop} {Q : Pq Flw} {e : Env} {s : Stt} : Stp (LQ I Q .next e s) (I e s) := ⟨fun h => FS.wp_lq h⟩
instance st_wp_lqr {I : Env → Stt → Prop} {Q : Pq Flw} {p : PV} {e : Env} {s : Stt} : Stp (LQ I Q (.ret p) e s) (Q (.ret p) e s) := ⟨fun h => FS.wp_lqr h⟩
instance st_wp_fqn {Q : PV → Stt → Prop} {e : Env} {s : Stt} : Stp (FQ Q .next e s) (Q .non s) := ⟨fun h => FS.wp_fqn h⟩
instance st_wp_fqr {Q : PV → Stt → Prop} {p : PV} {e : Env} {s : Stt} : Stp (FQ Q (.ret p) e s) (Q p s) := ⟨fun h => FS.wp_fqr h⟩
instance st_x_rev {xs : List PV} {Q : PV → Prop} : Stp (∃ w, pRev (.tup xs) = some w ∧ Q w) (Q (.tup xs.reverse)) := ⟨fun h => FS.x_rev h⟩
instance st_x_revL {xs : List PV} {Q : PV → Prop} : Stp (∃ w, pRev (.lst xs) = some w ∧ Q w) (Q (.lst xs.reverse)) := ⟨fun h => FS.x_revL h⟩
instance st_x_par3 {p q r : PV} {Q : PV → PV → PV → Prop} : Stp (∃ p' q' r', [p, q, r] = [p', q', r'] ∧ Q p' q' r') (Q p q r) := ⟨fun h => FS.x_par3 h⟩
end I
end FS
set_option Elab.async false
set_option linter.all false
set_option maxRecDepth 100000
/-! FsNum: primes, ways to choose, the coefficients of shifted polynomials. -/
namespace FS
/-- prime, up to the program's greatest -/
def prm (n : Int) : Prop := 2 ≤ n ∧ n ≤ 65521 ∧ ∀ k, 2 ≤ k → k * k ≤ n → n % k ≠ 0
open Classical in
noncomputable def isP : PV → Bool
  | .int n => decide (prm n)
  | _ => false
def Th (p : PV) : Prop := (∃ n, p = .int n) ∨ (∃ b, p = .bl b) ∨ p = .non ∨ (∃ x, p = .str x) ∨ ∃ xs, p = .tup xs
def isW (lo hi : Int) : PV → Bool
  | .int n => decide (lo ≤ n) && decide (n ≤ hi)
  | _ => false
theorem sq_le {a b : Int} (h0 : 0 ≤ a) (h : a ≤ b) : a * a ≤ b * b := Int.mul_le_mul h h h0 (Int.le_trans h0 h)
theorem sq_ge {d : Int} (h : 2 ≤ d) : d + 1 ≤ d * d := by
  have := Int.mul_le_mul_of_nonneg_right h (Int.le_trans (by decide) h)
  omega
theorem prm_of {n : Int} (h : 2 ≤ n ∧ n ≤ 65521) (hd : ∀ k : Nat, k < 256 → 2 ≤ k → k * k ≤ n.toNat → n.toNat % k ≠ 0) : prm n := by
  refine ⟨h.1, h.2, fun k h1 h2 h3 => ?_⟩
  have hk : k < 256 := by
    rcases Int.lt_or_le k 256 with q | q
    · exact q
    · have := sq_le (by decide) q
      omega
  have e1 : ((k.toNat : Nat) : Int) = k := Int.toNat_of_nonneg (by omega)
  have e2 : ((n.toNat : Nat) : Int) = n := Int.toNat_of_nonneg (by omega)
  refine hd k.toNat (by omega) (by omega) ?_ ?_
  · rw [← e1, ← e2] at h2
    exact_mod_cast h2
  · rw [← e1, ← e2] at h3
    exact_mod_cast h3
def ch : Nat → Nat → Nat
  | _, 0 => 1
  | 0, _ + 1 => 0
  | n + 1, k + 1 => ch n k + ch n (k + 1)
/-! ### coefficients of f(x + y) in y -/
def T : List Int → Int → Nat → Int
  | [], _, _ => 0
  | a :: f, x, 0 => a + x * T f x 0
  | _ :: f, x, j + 1 => T f x j + x * T f x (j + 1)
/-! ### remainders -/
/-- lists alike but for multiples of p -/
def Lk (p : Int) (f g : List Int) : Prop := f.length = g.length ∧ ∀ (i : Nat) (a b : Int), f[i]? = some a → g[i]? = some b → a % p = b % p
theorem Lk.tail {p a b : Int} {f g : List Int} (h : Lk p (a :: f) (b :: g)) : a % p = b % p ∧ Lk p f g := ⟨h.2 0 a b rfl rfl, by simpa using h.1, fun i c d h1 h2 => h.2 (i + 1) c d (by simpa using h1) (by simpa using h2)⟩
/-- what a shelf's cell holds -/
def cl (p : Int) (f : List Int) (x : Int) (j : Nat) : Int := if x = p then f.reverse.getD j 0 else T f x j % p
end FS
set_option Elab.async false
set_option linter.all false
set_option maxRecDepth 100000
/-! K60Den: the defs of law_k60_charters as data (printed by our gen.py) -/
namespace FS
open PySem L2
/-- the errors that this program raises -/
def errTab : List Str := ["BadBook", "BadCharter", "BadCharters", "BadGround", "BadMany", "BadTold", "Hopeless", "TooMany"]
/-- _law_pool(_law_script); names: 0 _law_script, 1 _law_first, 2 _law_size -/
@[irreducible] noncomputable def body__law_pool : Cd Flw := dSeq (dSet 1 (dIfE (dB (dOp pGt (dFn fLen (dCons (dUse 0) (dNil))) (ret (.int 0)))) (dFn fInt (dCons (dOp pIx (dUse 0) (ret (.int 0))) (dNil))) (ret (.int 0)))) (dSeq (dSet 2 (dIfE (dB (dOp pGe (dUse 1) (ret (.int 0)))) (dOp pMul (ret (.int 2)) (dUse 1)) (dOp pSub (dUn pNeg (ret (.int 1))) (dOp pMul (ret (.int 2)) (dUse 1))))) (dRet (dNew (dDisp (dCons (dIfE (dB (dOp pGe (dUse 2) (dOp pPow (ret (.int 10)) (ret (.int 18))))) (dUse 2) (ret (.int 0))) (dCons (dOp pAdd (dOp pMod (dFn fInt (dCons (dOp pAdd (dOp pMul (dUse 2) (ret (.int 48271))) (ret (.int 1009))) (dNil))) (ret (.int 2147483629))) (ret (.int 3))) (dCons (dNew (dListF (dCut (dUse 0) (dPart (ret (.int 1))) (dNoPart)))) (dNil))))))))
@[irreducible] noncomputable def den__law_pool : List PV → Stt → Res := runD 3 1 body__law_pool
/-- _law_draw(_law_pool_here, _law_many); names: 0 _law_pool_here, 1 _law_many, 2 _law_first, 3 _law_size, 4 _law_found -/
@[irreducible] noncomputable def body__law_draw : Cd Flw := dSeq (dIf (dAndT (dB (dOp pEq (dOp pIx (dUse 0) (ret (.int 0))) (ret (.int 0)))) (dB (dOp pNe (dOp pIx (dUse 0) (ret (.int 2))) (dFrz (dDisp (dNil)))))) (dSeq (dSet 2 (dFn fInt (dCons (dMthR mPopAt (dOp pIx (dUse 0) (ret (.int 2))) (dCons (ret (.int 0)) (dNil))) (dNil)))) (dSeq (dSet 3 (dIfE (dB (dOp pGe (dUse 2) (ret (.int 0)))) (dOp pMul (ret (.int 2)) (dUse 2)) (dOp pSub (dUn pNeg (ret (.int 1))) (dOp pMul (ret (.int 2)) (dUse 2))))) (dSeq (dSetR (dUse 0) (ret (.int 0)) (dIfE (dB (dOp pGe (dUse 3) (dOp pPow (ret (.int 10)) (ret (.int 18))))) (dUse 3) (ret (.int 0)))) (dSetR (dUse 0) (ret (.int 1)) (dOp pAdd (dOp pMod (dFn fInt (dCons (dOp pAdd (dOp pIx (dUse 0) (ret (.int 1))) (dOp pMul (dUse 3) (ret (.int 69621)))) (dNil))) (ret (.int 2147483629))) (ret (.int 3))))))) (nxt)) (dSeq (dIf (dB (dOp pGt (dOp pIx (dUse 0) (ret (.int 0))) (ret (.int 0)))) (dSeq (dSet 4 (dOp pMod (dFn fInt (dCons (dOp pIx (dUse 0) (ret (.int 0))) (dNil))) (dUse 1))) (dSeq (dSetR (dUse 0) (ret (.int 0)) (dOp pDiv (dOp pIx (dUse 0) (ret (.int 0))) (dUse 1))) (dRet (dUse 4)))) (nxt)) (dSeq (dSetR (dUse 0) (ret (.int 1)) (dOp pMod (dFn fInt (dCons (dOp pAdd (dOp pMul (dOp pIx (dUse 0) (ret (.int 1))) (ret (.int 48271))) (ret (.int 11))) (dNil))) (ret (.int 2147483647)))) (dRet (dOp pMod (dOp pDiv (dOp pMod (dFn fInt (dCons (dOp pMul (dOp pIx (dUse 0) (ret (.int 1))) (dOp pIx (dUse 0) (ret (.int 1)))) (dNil))) (ret (.int 2147483629))) (ret (.int 32))) (dUse 1)))))
@[irreducible] noncomputable def den__law_draw : List PV → Stt → Res := runD 5 2 body__law_draw
/-- _law_pick(_law_pool_here, _law_things); names: 0 _law_pool_here, 1 _law_things -/
@[irreducible] noncomputable def body__law_pick : Cd Flw := dRet (dOp pIx (dUse 1) (dCall 2 den__law_draw (dCons (dUse 0) (dCons (dFn fLen (dCons (dUse 1) (dNil))) (dNil)))))
@[irreducible] noncomputable def den__law_pick : List PV → Stt → Res := runD 2 2 body__law_pick
/-- _law_heard(_law_call); names: 0 _law_call, 1 error -/
@[irreducible] noncomputable def body__law_heard (f : Addr) (act : Stt → Res) : Cd Flw := dSeq (dTry errTab [⟨"BadCharter", some 1, fun c a b => dRet (dIfE (dAndT (dTru (dIsE 1 a b (catches "Refused" c))) (dNotT (dTru (dIsE 1 a b (catches "Hopeless" c))))) (dTup (dCons (ret (.str "charter")) (dCons (dWhat 1 a b) (dNil)))) (ret .non))⟩, ⟨"Hopeless", some 1, fun c a b => dRet (dTup (dCons (ret (.str "hopeless")) (dCons (dWhat 1 a b) (dNil))))⟩, ⟨"BadGround", some 1, fun c a b => dRet (dTup (dCons (ret (.str "ground")) (dCons (dWhat 1 a b) (dNil))))⟩, ⟨"BadBook", some 1, fun c a b => dRet (dTup (dCons (ret (.str "book")) (dCons (dWhat 1 a b) (dNil))))⟩, ⟨"TooMany", some 1, fun c a b => dRet (dTup (dCons (ret (.str "many")) (dCons (dWhat 1 a b) (dNil))))⟩, ⟨"BadCharters", some 1, fun c a b => dRet (dTup (dCons (ret (.str "charters")) (dCons (dWhat 1 a b) (dNil))))⟩] (dDrop (dAct 2 0 f act))) (dRet (ret .non))
@[irreducible] noncomputable def den__law_heard (f : Addr) (act : Stt → Res) (s : Stt) : Res := fin (body__law_heard f act (.val (.raw (.ref f)) :: List.replicate 1 .none) s)
/-- is_volume(thing); names: 0 thing -/
@[irreducible] noncomputable def body_is_volume : Cd Flw := dRet (dAndV (dFn fIsi (dCons (dUse 0) (dCons (ret (.raw (.ty "int"))) (dNil)))) (dAndV (dNotV (dFn fIsi (dCons (dUse 0) (dCons (ret (.raw (.ty "bool"))) (dNil))))) (dOp pGe (dUse 0) (ret (.int 0)))))
@[irreducible] noncomputable def den_is_volume : List PV → Stt → Res := runD 1 1 body_is_volume
/-- is_whole(thing, low, high); names: 0 thing, 1 low, 2 high -/
@[irreducible] noncomputable def body_is_whole : Cd Flw := dRet (dAndV (dFn fIsi (dCons (dUse 0) (dCons (ret (.raw (.ty "int"))) (dNil)))) (dAndV (dNotV (dFn fIsi (dCons (dUse 0) (dCons (ret (.raw (.ty "bool"))) (dNil))))) (dChain pLe pLe (dUse 1) (dUse 0) (dUse 2))))
@[irreducible] noncomputable def den_is_whole : List PV → Stt → Res := runD 3 3 body_is_whole
/-- is_prime(n); names: 0 n, 1 divisor -/
@[irreducible] noncomputable def body_is_prime : Cd Flw := dSeq (dIf (dNotT (dTru (dCall 3 den_is_whole (dCons (dUse 0) (dCons (ret (.int 2)) (dCons (ret (.int 65521)) (dNil))))))) (dRet (ret (.bl false))) (nxt)) (dSeq (dSet 1 (ret (.int 2))) (dSeq (dWhile (dB (dOp pLe (dOp pMul (dUse 1) (dUse 1)) (dUse 0))) (dSeq (dIf (dB (dOp pEq (dOp pMod (dUse 0) (dUse 1)) (ret (.int 0)))) (dRet (ret (.bl false))) (nxt)) (dSet 1 (dOp pAdd (dUse 1) (ret (.int 1)))))) (dRet (ret (.bl true)))))
@[irreducible] noncomputable def den_is_prime : List PV → Stt → Res := runD 2 1 body_is_prime
/-- are_points(p, thing); names: 0 p, 1 thing, 2 index -/
@[irreducible] noncomputable def body_are_points : Cd Flw := dSeq (dIf (dOrT (dNotT (dTru (dFn fIsi (dCons (dUse 1) (dCons (ret (.raw (.ty "tuple"))) (dNil)))))) (dNotT (dB (dChain pLe pLe (ret (.int 1)) (dFn fLen (dCons (dUse 1) (dNil))) (ret (.int 8)))))) (dRet (ret (.bl false))) (nxt)) (dSeq (dFor (dRng1 (dCons (dFn fLen (dCons (dUse 1) (dNil))) (dNil))) (gSet 2) (dIf (dOrT (dNotT (dTru (dCall 3 den_is_whole (dCons (dOp pIx (dUse 1) (dUse 2)) (dCons (ret (.int 0)) (dCons (dUse 0) (dNil))))))) (dB (dOp pInA (dOp pIx (dUse 1) (dUse 2)) (dCut (dUse 1) (dNoPart) (dPart (dUse 2)))))) (dRet (ret (.bl false))) (nxt))) (dRet (ret (.bl true))))
@[irreducible] noncomputable def den_are_points : List PV → Stt → Res := runD 3 2 body_are_points
/-- made_ground(thing); names: 0 thing -/
@[irreducible] noncomputable def body_made_ground : Cd Flw := dSeq (dIf (dOrT (dNotT (dTru (dFn fIsi (dCons (dUse 0) (dCons (ret (.raw (.ty "tuple"))) (dNil)))))) (dB (dOp pNe (dFn fLen (dCons (dUse 0) (dNil))) (ret (.int 3))))) (dRaise "BadGround" (dUn pNeg (ret (.int 1)))) (nxt)) (dSeq (dIf (dNotT (dTru (dCall 1 den_is_prime (dCons (dOp pIx (dUse 0) (ret (.int 0))) (dNil))))) (dRaise "BadGround" (ret (.int 0))) (nxt)) (dSeq (dIf (dNotT (dTru (dCall 3 den_is_whole (dCons (dOp pIx (dUse 0) (ret (.int 1))) (dCons (ret (.int 1)) (dCons (ret (.int 12)) (dNil))))))) (dRaise "BadGround" (ret (.int 1))) (nxt)) (dSeq (dIf (dNotT (dTru (dCall 2 den_are_points (dCons (dOp pIx (dUse 0) (ret (.int 0))) (dCons (dOp pIx (dUse 0) (ret (.int 2))) (dNil)))))) (dRaise "BadGround" (ret (.int 2))) (nxt)) (dRet (dUse 0)))))
@[irreducible] noncomputable def den_made_ground : List PV → Stt → Res := runD 1 1 body_made_ground
/-- is_below(thing, many); names: 0 thing, 1 many -/
@[irreducible] noncomputable def body_is_below : Cd Flw := dRet (dAndV (dFn fIsi (dCons (dUse 0) (dCons (ret (.raw (.ty "int"))) (dNil)))) (dAndV (dNotV (dFn fIsi (dCons (dUse 0) (dCons (ret (.raw (.ty "bool"))) (dNil))))) (dChain pLe pLt (ret (.int 0)) (dUse 0) (dUse 1))))
@[irreducible] noncomputable def den_is_below : List PV → Stt → Res := runD 2 2 body_is_below
/-- is_bound(thing); names: 0 thing -/
@[irreducible] noncomputable def body_is_bound : Cd Flw := dRet (dOrV (dOp pIs (dUse 0) (ret .non)) (dCall 2 den_is_below (dCons (dUse 0) (dCons (dOp pAdd (ret (.int 64)) (ret (.int 1))) (dNil)))))
@[irreducible] noncomputable def den_is_bound : List PV → Stt → Res := runD 1 1 body_is_bound
/-- is_fate(thing); names: 0 thing -/
@[irreducible] noncomputable def body_is_fate : Cd Flw := dRet (dAndV (dFn fIsi (dCons (dUse 0) (dCons (ret (.raw (.ty "tuple"))) (dNil)))) (dAndV (dOp pEq (dFn fLen (dCons (dUse 0) (dNil))) (ret (.int 2))) (dAndV (dCall 1 den_is_bound (dCons (dOp pIx (dUse 0) (ret (.int 0))) (dNil))) (dCall 1 den_is_bound (dCons (dOp pIx (dUse 0) (ret (.int 1))) (dNil))))))
@[irreducible] noncomputable def den_is_fate : List PV → Stt → Res := runD 1 1 body_is_fate
/-- is_row(many, thing); names: 0 many, 1 thing, 2 fate -/
@[irreducible] noncomputable def body_is_row : Cd Flw := dSeq (dIf (dOrT (dNotT (dTru (dFn fIsi (dCons (dUse 1) (dCons (ret (.raw (.ty "tuple"))) (dNil)))))) (dB (dOp pNe (dFn fLen (dCons (dUse 1) (dNil))) (dUse 0)))) (dRet (ret (.bl false))) (nxt)) (dSeq (dFor (dItems (dUse 1)) (gSet 2) (dIf (dNotT (dTru (dCall 1 den_is_fate (dCons (dUse 2) (dNil))))) (dRet (ret (.bl false))) (nxt))) (dRet (ret (.bl true))))
@[irreducible] noncomputable def den_is_row : List PV → Stt → Res := runD 3 2 body_is_row
/-- made_book(many, thing); names: 0 many, 1 thing, 2 index, 3 row -/
@[irreducible] noncomputable def body_made_book : Cd Flw := dSeq (dIf (dOrT (dNotT (dTru (dCall 2 den_is_below (dCons (dUse 0) (dCons (dOp pAdd (ret (.int 8)) (ret (.int 1))) (dNil)))))) (dB (dOp pEq (dUse 0) (ret (.int 0))))) (dRaise "BadMany" (dUse 0)) (nxt)) (dSeq (dIf (dOrT (dNotT (dTru (dFn fIsi (dCons (dUse 1) (dCons (ret (.raw (.ty "tuple"))) (dNil)))))) (dB (dOp pEq (dUse 1) (dTup (dNil))))) (dRaise "BadBook" (dUn pNeg (ret (.int 1)))) (nxt)) (dSeq (dIf (dB (dOp pGt (dFn fLen (dCons (dUse 1) (dNil))) (ret (.int 24)))) (dRaise "TooMany" (dFn fLen (dCons (dUse 1) (dNil)))) (nxt)) (dSeq (dFor (dEnum (dCons (dUse 1) (dNil))) (gTupD 2 (gsCons (gSet 2) (gsCons (gSet 3) (gsNil)))) (dIf (dNotT (dTru (dCall 2 den_is_row (dCons (dUse 0) (dCons (dUse 3) (dNil)))))) (dRaise "BadBook" (dUse 2)) (nxt))) (dRet (dUse 1)))))
@[irreducible] noncomputable def den_made_book : List PV → Stt → Res := runD 4 2 body_made_book
/-- shelves(ground); names: 0 ground -/
@[irreducible] noncomputable def body_shelves : Cd Flw := dRet (dFn fLen (dCons (dOp pIx (dCall 1 den_made_ground (dCons (dUse 0) (dNil))) (ret (.int 2))) (dNil)))
@[irreducible] noncomputable def den_shelves : List PV → Stt → Res := runD 1 1 body_shelves
/-- check_told(told); names: 0 told -/
@[irreducible] noncomputable def body_check_told : Cd Flw := dIf (dNotT (dTru (dFn fIsi (dCons (dUse 0) (dCons (ret (.raw (.ty "bool"))) (dNil)))))) (dRaise "BadTold" (dUse 0)) (nxt)
@[irreducible] noncomputable def den_check_told : List PV → Stt → Res := runD 1 1 body_check_told
/-- lesser(one, other); names: 0 one, 1 other -/
@[irreducible] noncomputable def body_lesser : Cd Flw := dSeq (dIf (dOrT (dB (dOp pIs (dUse 0) (ret .non))) (dB (dOp pIs (dUse 1) (ret .non)))) (dRet (dIfE (dB (dOp pIs (dUse 0) (ret .non))) (dUse 1) (dUse 0))) (nxt)) (dRet (dFn fMin (dCons (dUse 0) (dCons (dUse 1) (dNil)))))
@[irreducible] noncomputable def den_lesser : List PV → Stt → Res := runD 2 2 body_lesser
/-- missing(fate, other, told); names: 0 fate, 1 other, 2 told -/
@[irreducible] noncomputable def body_missing : Cd Flw := dRet (dIfE (dTru (dUse 2)) (dCall 2 den_lesser (dCons (dOp pIx (dUse 0) (ret (.int 0))) (dCons (dOp pIx (dUse 1) (ret (.int 0))) (dNil)))) (dOp pIx (dUse 0) (ret (.int 0))))
@[irreducible] noncomputable def den_missing : List PV → Stt → Res := runD 3 3 body_missing
/-- greater(one, other); names: 0 one, 1 other -/
@[irreducible] noncomputable def body_greater : Cd Flw := dRet (dIfE (dOrT (dB (dOp pIs (dUse 0) (ret .non))) (dB (dOp pIs (dUse 1) (ret .non)))) (ret .non) (dFn fMax (dCons (dUse 0) (dCons (dUse 1) (dNil)))))
@[irreducible] noncomputable def den_greater : List PV → Stt → Res := runD 2 2 body_greater
/-- is_bearable_pair(row, other, told); names: 0 row, 1 other, 2 told, 3 at -/
@[irreducible] noncomputable def body_is_bearable_pair : Cd Flw := dSeq (dFor (dRng1 (dCons (dFn fLen (dCons (dUse 0) (dNil))) (dNil))) (gSet 3) (dIf (dAndT (dB (dOp pIsNot (dCall 3 den_missing (dCons (dOp pIx (dUse 0) (dUse 3)) (dCons (dOp pIx (dUse 1) (dUse 3)) (dCons (dUse 2) (dNil))))) (ret .non))) (dB (dOp pIsNot (dCall 2 den_greater (dCons (dOp pIx (dOp pIx (dUse 0) (dUse 3)) (ret (.int 1))) (dCons (dOp pIx (dOp pIx (dUse 1) (dUse 3)) (ret (.int 1))) (dNil)))) (ret .non)))) (dRet (ret (.bl true))) (nxt))) (dRet (ret (.bl false)))
@[irreducible] noncomputable def den_is_bearable_pair : List PV → Stt → Res := runD 4 3 body_is_bearable_pair
/-- bearable(ground, book, told); names: 0 ground, 1 book, 2 told -/
@[irreducible] noncomputable def body_bearable : Cd Flw := dSeq (dDrop (dCall 1 den_made_ground (dCons (dUse 0) (dNil)))) (dSeq (dDrop (dCall 2 den_made_book (dCons (dCall 1 den_shelves (dCons (dUse 0) (dNil))) (dCons (dUse 1) (dNil))))) (dSeq (dDrop (dCall 1 den_check_told (dCons (dUse 2) (dNil)))) (dRet (dAll2 (dItems (dUse 1)) (gSet 0) (dItems (dUse 3)) (gSet 1) (dCall 3 den_is_bearable_pair (dCons (dUse 0) (dCons (dUse 1) (dCons (dUse 4) (dNil)))))))))
@[irreducible] noncomputable def den_bearable : List PV → Stt → Res := runD 3 3 body_bearable
/-- made_charter(thing); names: 0 thing, 1 ground, 2 book -/
@[irreducible] noncomputable def body_made_charter : Cd Flw := dSeq (dIf (dOrT (dNotT (dTru (dFn fIsi (dCons (dUse 0) (dCons (ret (.raw (.ty "tuple"))) (dNil)))))) (dB (dOp pNe (dFn fLen (dCons (dUse 0) (dNil))) (ret (.int 2))))) (dRaise "BadCharter" (ret (.int 0))) (nxt)) (dSeq (dSet 1 (dCall 1 den_made_ground (dCons (dOp pIx (dUse 0) (ret (.int 0))) (dNil)))) (dSeq (dSet 2 (dCall 2 den_made_book (dCons (dCall 1 den_shelves (dCons (dUse 1) (dNil))) (dCons (dOp pIx (dUse 0) (ret (.int 1))) (dNil))))) (dSeq (dIf (dB (dOp pLt (dOp pIx (dUse 1) (ret (.int 0))) (ret (.int 41)))) (dRaise "BadCharter" (ret (.int 1))) (nxt)) (dSeq (dIf (dB (dOp pLt (dOp pIx (dUse 1) (ret (.int 1))) (ret (.int 3)))) (dRaise "BadCharter" (ret (.int 2))) (nxt)) (dSeq (dIf (dNotT (dTru (dCall 3 den_bearable (dCons (dUse 1) (dCons (dUse 2) (dCons (ret (.bl false)) (dNil))))))) (dRaise "Hopeless" (ret (.int 0))) (nxt)) (dRet (dUse 0)))))))
@[irreducible] noncomputable def den_made_charter : List PV → Stt → Res := runD 3 1 body_made_charter
/-- is_charter(thing); names: 0 thing -/
@[irreducible] noncomputable def body_is_charter : Cd Flw := dSeq (dTry errTab [⟨"Refused", none, fun c a b => dRet (ret (.bl false))⟩] (dDrop (dCall 1 den_made_charter (dCons (dUse 0) (dNil))))) (dRet (ret (.bl true)))
@[irreducible] noncomputable def den_is_charter : List PV → Stt → Res := runD 1 1 body_is_charter
/-- is_entry(thing, ahead); names: 0 thing, 1 ahead -/
@[irreducible] noncomputable def body_is_entry : Cd Flw := dSeq (dIf (dOrT (dNotT (dTru (dFn fIsi (dCons (dUse 0) (dCons (ret (.raw (.ty "tuple"))) (dNil)))))) (dB (dOp pNe (dFn fLen (dCons (dUse 0) (dNil))) (ret (.int 2))))) (dRet (ret (.bl false))) (nxt)) (dRet (dAndV (dCall 1 den_is_volume (dCons (dOp pIx (dUse 0) (ret (.int 0))) (dNil))) (dAndV (dOp pGt (dOp pIx (dUse 0) (ret (.int 0))) (dUse 1)) (dCall 1 den_is_charter (dCons (dOp pIx (dUse 0) (ret (.int 1))) (dNil))))))
@[irreducible] noncomputable def den_is_entry : List PV → Stt → Res := runD 2 2 body_is_entry
/-- made_charters(thing); names: 0 thing, 1 ahead, 2 index -/
@[irreducible] noncomputable def body_made_charters : Cd Flw := dSeq (dIf (dNotT (dTru (dFn fIsi (dCons (dUse 0) (dCons (ret (.raw (.ty "tuple"))) (dNil)))))) (dRaise "BadCharters" (dUn pNeg (ret (.int 1)))) (nxt)) (dSeq (dSet 1 (dUn pNeg (ret (.int 1)))) (dSeq (dFor (dRng1 (dCons (dFn fLen (dCons (dUse 0) (dNil))) (dNil))) (gSet 2) (dSeq (dIf (dNotT (dTru (dCall 2 den_is_entry (dCons (dOp pIx (dUse 0) (dUse 2)) (dCons (dUse 1) (dNil)))))) (dRaise "BadCharters" (dUse 2)) (nxt)) (dSet 1 (dOp pIx (dOp pIx (dUse 0) (dUse 2)) (ret (.int 0)))))) (dRet (dUse 0))))
@[irreducible] noncomputable def den_made_charters : List PV → Stt → Res := runD 3 1 body_made_charters
/-- _law_many_right(_law_pool_here, _law_good, _law_bad); names: 0 _law_pool_here, 1 _law_good, 2 _law_bad, 3 _law_rows, 4 _law_number, 5 _law_turn, 6 _law_at, 7 _law_wrong_here, 8 _law_bent -/
@[irreducible] noncomputable def body__law_many_right : Cd Flw := dSeq (dOwnSet 3 4 (dDisp (dNil)) (dCall 2 den__law_draw (dCons (dUse 0) (dCons (ret (.int 3)) (dNil))))) (dSeq (dFor (dRng1 (dCons (dCall 2 den__law_draw (dCons (dUse 0) (dCons (ret (.int 4)) (dNil)))) (dNil))) (gSet 5) (dSeq (dDrop (dMthO 3 mAppend (dCons (dTup (dCons (dUse 4) (dCons (dUse 1) (dNil)))) (dNil)))) (dSet 4 (dOp pAdd (dOp pAdd (dUse 4) (ret (.int 1))) (dCall 2 den__law_draw (dCons (dUse 0) (dCons (ret (.int 9)) (dNil)))))))) (dSeq (dIf (dOrT (dB (dOp pNe (dCall 1 den_made_charters (dCons (dFn fTuple (dCons (dUse 3) (dNil))) (dNil))) (dFn fTuple (dCons (dUse 3) (dNil))))) (dB (dOp pNe (dLam den__law_heard (dCall 1 den_made_charters (dCons (ret .non) (dNil)))) (dTup (dCons (ret (.str "charters")) (dCons (dUn pNeg (ret (.int 1))) (dNil))))))) (dRet (ret (.bl false))) (nxt)) (dSeq (dSet 6 (dCall 2 den__law_draw (dCons (dUse 0) (dCons (dOp pAdd (dLenO 3) (ret (.int 1))) (dNil))))) (dSeq (dSet 7 (dCall 2 den__law_pick (dCons (dUse 0) (dCons (dFrz (dDisp (dCons (dTup (dCons (dUn pNeg (ret (.int 1))) (dCons (dUse 1) (dNil)))) (dCons (dTup (dCons (ret .non) (dCons (dUse 1) (dNil)))) (dCons (dTup (dCons (ret (.bl true)) (dCons (dUse 1) (dNil)))) (dCons (dTup (dCons (dUse 4) (dCons (dUse 2) (dNil)))) (dCons (dTup (dCons (dUse 4) (dNil))) (dCons (ret .non) (dCons (dTup (dCons (dUse 4) (dCons (dUse 1) (dCons (dUse 1) (dNil))))) (dNil)))))))))) (dNil))))) (dSeq (dIf (dAndT (dB (dOp pGt (dUse 6) (ret (.int 0)))) (dB (dOp pEq (dCall 2 den__law_draw (dCons (dUse 0) (dCons (ret (.int 2)) (dNil)))) (ret (.int 0))))) (dSet 7 (dTup (dCons (dOp pIx (dIxO 3 (dOp pSub (dUse 6) (ret (.int 1)))) (ret (.int 0))) (dCons (dUse 1) (dNil))))) (nxt)) (dSeq (dSet 8 (dOp pAdd (dOp pAdd (dCut (dUse 3) (dNoPart) (dPart (dUse 6))) (dFrz (dDisp (dCons (dUse 7) (dNil))))) (dCut (dUse 3) (dPart (dUse 6)) (dNoPart)))) (dRet (dOp pEq (dLam den__law_heard (dCall 1 den_made_charters (dCons (dFn fTuple (dCons (dUse 8) (dNil))) (dNil)))) (dTup (dCons (ret (.str "charters")) (dCons (dUse 6) (dNil))))))))))))
@[irreducible] noncomputable def den__law_many_right : List PV → Stt → Res := runD 9 3 body__law_many_right
/-- _law_bound(_law_pool_here); names: 0 _law_pool_here -/
@[irreducible] noncomputable def body__law_bound : Cd Flw := dRet (dCall 2 den__law_pick (dCons (dUse 0) (dCons (dFrz (dDisp (dCons (ret (.int 0)) (dCons (ret (.int 0)) (dCons (ret (.int 0)) (dCons (ret (.int 1)) (dCons (ret (.int 1)) (dCons (ret (.int 2)) (dCons (ret (.int 3)) (dCons (ret .non) (dNil))))))))))) (dNil))))
@[irreducible] noncomputable def den__law_bound : List PV → Stt → Res := runD 1 1 body__law_bound
/-- _law_row(_law_pool_here, _law_many); names: 0 _law_pool_here, 1 _law_many, 2 _law_shelf, 3 _law_struck, 4 _law_turn -/
@[irreducible] noncomputable def body__law_row : Cd Flw := dSeq (dIf (dB (dOp pEq (dCall 2 den__law_draw (dCons (dUse 0) (dCons (ret (.int 3)) (dNil)))) (ret (.int 0)))) (dRet (dFn fTuple (dCons (dFrz (dComp (dRng1 (dCons (dUse 1) (dNil))) [2] (gSet 2) (ret true) (dTup (dCons (dCall 1 den__law_bound (dCons (dUse 0) (dNil))) (dCons (dCall 1 den__law_bound (dCons (dUse 0) (dNil))) (dNil)))))) (dNil)))) (nxt)) (dSeq (dSet 3 (dFrz (dComp (dRng1 (dCons (dOp pAdd (ret (.int 1)) (dCall 2 den__law_draw (dCons (dUse 0) (dCons (ret (.int 2)) (dNil))))) (dNil))) [4] (gSet 4) (ret true) (dCall 2 den__law_draw (dCons (dUse 0) (dCons (dUse 1) (dNil))))))) (dRet (dFn fTuple (dCons (dFrz (dComp (dRng1 (dCons (dUse 1) (dNil))) [2] (gSet 2) (ret true) (dIfE (dB (dOp pInA (dUse 2) (dUse 3))) (dTup (dCons (dCall 1 den__law_bound (dCons (dUse 0) (dNil))) (dCons (dCall 1 den__law_bound (dCons (dUse 0) (dNil))) (dNil)))) (dTup (dCons (ret (.int 0)) (dCons (ret (.int 0)) (dNil))))))) (dNil)))))
@[irreducible] noncomputable def den__law_row : List PV → Stt → Res := runD 5 2 body__law_row
/-- _law_book(_law_pool_here, _law_many); names: 0 _law_pool_here, 1 _law_many, 2 _law_way, 3 _law_fate, 4 _law_shelf, 5 _law_other, 6 _law_turn -/
@[irreducible] noncomputable def body__law_book : Cd Flw := dSeq (dSet 2 (dCall 2 den__law_draw (dCons (dUse 0) (dCons (ret (.int 6)) (dNil))))) (dSeq (dIf (dB (dOp pLt (dUse 2) (ret (.int 2)))) (dSeq (dSet 3 (dOp pIx (dFrz (dDisp (dCons (dTup (dCons (ret .non) (dCons (ret (.int 0)) (dNil)))) (dCons (dTup (dCons (ret (.int 0)) (dCons (ret .non) (dNil)))) (dNil))))) (dUse 2))) (dRet (dFn fTuple (dCons (dFrz (dComp (dRng1 (dCons (dUse 1) (dNil))) [5] (gSet 5) (ret true) (dFn fTuple (dCons (dFrz (dComp (dRng1 (dCons (dUse 1) (dNil))) [4] (gSet 4) (ret true) (dIfE (dB (dOp pEq (dUse 4) (dUse 5))) (dUse 3) (dTup (dCons (ret (.int 0)) (dCons (ret (.int 0)) (dNil))))))) (dNil))))) (dNil))))) (nxt)) (dRet (dFn fTuple (dCons (dFrz (dComp (dRng1 (dCons (dOp pAdd (ret (.int 1)) (dCall 2 den__law_draw (dCons (dUse 0) (dCons (ret (.int 4)) (dNil))))) (dNil))) [6] (gSet 6) (ret true) (dCall 2 den__law_row (dCons (dUse 0) (dCons (dUse 1) (dNil)))))) (dNil)))))
@[irreducible] noncomputable def den__law_book : List PV → Stt → Res := runD 7 2 body__law_book
/-- _law_turned(_law_pool_here, _law_many); names: 0 _law_pool_here, 1 _law_many, 2 _law_left, 3 _law_found, 4 _law_turn -/
@[irreducible] noncomputable def body__law_turned : Cd Flw := dSeq (dOwnNil 2 3 (dRngL (dCons (dUse 1) dNil))) (dSeq (dFor (dRng1 (dCons (dUse 1) (dNil))) (gSet 4) (dDrop (dMthO 3 mAppend (dCons (dMthO 2 mPopAt (dCons (dCall 2 den__law_draw (dCons (dUse 0) (dCons (dLenO 2) (dNil)))) (dNil))) (dNil))))) (dRet (dUse 3)))
@[irreducible] noncomputable def den__law_turned : List PV → Stt → Res := runD 5 2 body__law_turned
/-- _law_pair(_law_pool_here); names: 0 _law_pool_here, 1 _law_p, 2 _law_many, 3 _law_points -/
@[irreducible] noncomputable def body__law_pair : Cd Flw := dSeq (dSet 1 (dCall 2 den__law_pick (dCons (dUse 0) (dCons (dFrz (dDisp (dCons (ret (.int 37)) (dCons (ret (.int 41)) (dCons (ret (.int 43)) (dCons (ret (.int 41)) (dCons (ret (.int 65521)) (dCons (ret (.int 2)) (dNil))))))))) (dNil))))) (dSeq (dSet 2 (dFn fMin (dCons (dOp pAdd (dUse 1) (ret (.int 1))) (dCons (dOp pAdd (ret (.int 1)) (dCall 2 den__law_draw (dCons (dUse 0) (dCons (ret (.int 4)) (dNil))))) (dNil))))) (dSeq (dSet 3 (dIfE (dB (dOp pEq (dUse 2) (ret (.int 1)))) (dFn fTuple (dCons (dFrz (dDisp (dCons (dOp pIx (dCall 2 den__law_turned (dCons (dUse 0) (dCons (dFn fMin (dCons (dOp pAdd (dUse 1) (ret (.int 1))) (dCons (ret (.int 8)) (dNil)))) (dNil)))) (ret (.int 0))) (dNil)))) (dNil))) (dFn fTuple (dCons (dCut (dCall 2 den__law_turned (dCons (dUse 0) (dCons (dFn fMin (dCons (dOp pAdd (dUse 1) (ret (.int 1))) (dCons (ret (.int 8)) (dNil)))) (dNil)))) (dNoPart) (dPart (dUse 2))) (dNil))))) (dSeq (dIf (dAndT (dB (dOp pNotInA (dUse 1) (dUse 3))) (dB (dOp pEq (dCall 2 den__law_draw (dCons (dUse 0) (dCons (ret (.int 2)) (dNil)))) (ret (.int 0))))) (dSet 3 (dOp pAdd (dCut (dUse 3) (dNoPart) (dPart (dUn pNeg (ret (.int 1))))) (dTup (dCons (dUse 1) (dNil))))) (nxt)) (dRet (dTup (dCons (dTup (dCons (dUse 1) (dCons (dOp pAdd (ret (.int 1)) (dCall 2 den__law_draw (dCons (dUse 0) (dCons (ret (.int 6)) (dNil))))) (dCons (dUse 3) (dNil))))) (dCons (dCall 2 den__law_book (dCons (dUse 0) (dCons (dUse 2) (dNil)))) (dNil))))))))
@[irreducible] noncomputable def den__law_pair : List PV → Stt → Res := runD 4 1 body__law_pair
/-- _law_wrong(_law_pool_here, _law_ground, _law_book_here); names: 0 _law_pool_here, 1 _law_ground, 2 _law_book_here, 3 _law_way, 4 _law_at, 5 _law_row_here -/
@[irreducible] noncomputable def body__law_wrong : Cd Flw := dSeq (dSet 3 (dCall 2 den__law_draw (dCons (dUse 0) (dCons (ret (.int 9)) (dNil))))) (dSeq (dIf (dB (dOp pEq (dUse 3) (ret (.int 0)))) (dRet (dTup (dCons (dCall 2 den__law_pick (dCons (dUse 0) (dCons (dFrz (dDisp (dCons (ret .non) (dCons (dTup (dNil)) (dCons (dTup (dCons (dUse 1) (dNil))) (dCons (dTup (dCons (dUse 1) (dCons (dUse 2) (dCons (dUse 2) (dNil))))) (dCons (ret (.int 41)) (dNil)))))))) (dNil)))) (dCons (dTup (dCons (ret (.str "charter")) (dCons (ret (.int 0)) (dNil)))) (dNil))))) (nxt)) (dSeq (dIf (dB (dOp pEq (dUse 3) (ret (.int 1)))) (dRet (dTup (dCons (dTup (dCons (dCall 2 den__law_pick (dCons (dUse 0) (dCons (dFrz (dDisp (dCons (ret .non) (dCons (dTup (dNil)) (dCons (dCut (dUse 1) (dNoPart) (dPart (ret (.int 2)))) (dCons (ret (.int 5)) (dNil))))))) (dNil)))) (dCons (dUse 2) (dNil)))) (dCons (dTup (dCons (ret (.str "ground")) (dCons (dUn pNeg (ret (.int 1))) (dNil)))) (dNil))))) (nxt)) (dSeq (dIf (dB (dOp pEq (dUse 3) (ret (.int 2)))) (dRet (dTup (dCons (dTup (dCons (dOp pAdd (dTup (dCons (dCall 2 den__law_pick (dCons (dUse 0) (dCons (dFrz (dDisp (dCons (ret (.int 4)) (dCons (ret (.int 65537)) (dCons (ret (.bl true)) (dCons (ret .non) (dCons (ret (.int 1)) (dNil)))))))) (dNil)))) (dNil))) (dCut (dUse 1) (dPart (ret (.int 1))) (dNoPart))) (dCons (dTup (dNil)) (dNil)))) (dCons (dTup (dCons (ret (.str "ground")) (dCons (ret (.int 0)) (dNil)))) (dNil))))) (nxt)) (dSeq (dIf (dB (dOp pEq (dUse 3) (ret (.int 3)))) (dRet (dTup (dCons (dTup (dCons (dTup (dCons (dOp pIx (dUse 1) (ret (.int 0))) (dCons (dCall 2 den__law_pick (dCons (dUse 0) (dCons (dFrz (dDisp (dCons (ret (.int 0)) (dCons (ret (.int 13)) (dCons (ret (.bl true)) (dCons (ret .non) (dNil))))))) (dNil)))) (dCons (dOp pIx (dUse 1) (ret (.int 2))) (dNil))))) (dCons (ret .non) (dNil)))) (dCons (dTup (dCons (ret (.str "ground")) (dCons (ret (.int 1)) (dNil)))) (dNil))))) (nxt)) (dSeq (dIf (dB (dOp pEq (dUse 3) (ret (.int 4)))) (dRet (dTup (dCons (dTup (dCons (dTup (dCons (dOp pIx (dUse 1) (ret (.int 0))) (dCons (dOp pIx (dUse 1) (ret (.int 1))) (dCons (dCall 2 den__law_pick (dCons (dUse 0) (dCons (dFrz (dDisp (dCons (dTup (dNil)) (dCons (dTup (dCons (dOp pAdd (dOp pIx (dUse 1) (ret (.int 0))) (ret (.int 1))) (dNil))) (dCons (dOp pAdd (dOp pIx (dUse 1) (ret (.int 2))) (dCut (dOp pIx (dUse 1) (ret (.int 2))) (dNoPart) (dPart (ret (.int 1))))) (dCons (ret .non) (dNil))))))) (dNil)))) (dNil))))) (dCons (dUse 2) (dNil)))) (dCons (dTup (dCons (ret (.str "ground")) (dCons (ret (.int 2)) (dNil)))) (dNil))))) (nxt)) (dSeq (dIf (dB (dOp pEq (dUse 3) (ret (.int 5)))) (dRet (dTup (dCons (dTup (dCons (dUse 1) (dCons (dCall 2 den__law_pick (dCons (dUse 0) (dCons (dFrz (dDisp (dCons (ret .non) (dCons (dTup (dNil)) (dCons (ret (.int 7)) (dNil)))))) (dNil)))) (dNil)))) (dCons (dTup (dCons (ret (.str "book")) (dCons (dUn pNeg (ret (.int 1))) (dNil)))) (dNil))))) (nxt)) (dSeq (dIf (dB (dOp pEq (dUse 3) (ret (.int 6)))) (dRet (dTup (dCons (dTup (dCons (dUse 1) (dCons (dOp pMulA (dCut (dUse 2) (dNoPart) (dPart (ret (.int 1)))) (ret (.int 25))) (dNil)))) (dCons (dTup (dCons (ret (.str "many")) (dCons (ret (.int 25)) (dNil)))) (dNil))))) (nxt)) (dSeq (dSet 4 (dCall 2 den__law_draw (dCons (dUse 0) (dCons (dFn fLen (dCons (dUse 2) (dNil))) (dNil))))) (dSeq (dSet 5 (dCall 2 den__law_pick (dCons (dUse 0) (dCons (dFrz (dDisp (dCons (ret .non) (dCons (dOp pAdd (dOp pIx (dUse 2) (dUse 4)) (dTup (dCons (dTup (dCons (ret (.int 0)) (dCons (ret (.int 0)) (dNil)))) (dNil)))) (dCons (dOp pAdd (dTup (dCons (dTup (dCons (ret (.int 65)) (dCons (ret (.int 0)) (dNil)))) (dNil))) (dCut (dOp pIx (dUse 2) (dUse 4)) (dPart (ret (.int 1))) (dNoPart))) (dCons (dOp pAdd (dTup (dCons (dTup (dCons (ret (.int 0)) (dCons (dUn pNeg (ret (.int 1))) (dNil)))) (dNil))) (dCut (dOp pIx (dUse 2) (dUse 4)) (dPart (ret (.int 1))) (dNoPart))) (dCons (dOp pAdd (dTup (dCons (dTup (dCons (ret (.int 0)) (dNil))) (dNil))) (dCut (dOp pIx (dUse 2) (dUse 4)) (dPart (ret (.int 1))) (dNoPart))) (dNil)))))))) (dNil))))) (dRet (dTup (dCons (dTup (dCons (dUse 1) (dCons (dOp pAdd (dOp pAdd (dCut (dUse 2) (dNoPart) (dPart (dUse 4))) (dTup (dCons (dUse 5) (dNil)))) (dCut (dUse 2) (dPart (dOp pAdd (dUse 4) (ret (.int 1)))) (dNoPart))) (dNil)))) (dCons (dTup (dCons (ret (.str "book")) (dCons (dUse 4) (dNil)))) (dNil))))))))))))))
@[irreducible] noncomputable def den__law_wrong : List PV → Stt → Res := runD 6 3 body__law_wrong
/-- _law_is_told(_law_thing, _law_due_here); names: 0 _law_thing, 1 _law_due_here, 2 _law_told -/
@[irreducible] noncomputable def body__law_is_told : Cd Flw := dSeq (dSet 2 (dCall 1 den_is_charter (dCons (dUse 0) (dNil)))) (dSeq (dIf (dOrT (dNotT (dTru (dFn fIsi (dCons (dUse 2) (dCons (ret (.raw (.ty "bool"))) (dNil)))))) (dOrT (dB (dOp pNe (dUse 2) (dOp pIs (dUse 1) (ret .non)))) (dB (dOp pNe (dLam den__law_heard (dCall 1 den_made_charter (dCons (dUse 0) (dNil)))) (dUse 1))))) (dRet (ret (.bl false))) (nxt)) (dRet (dOrV (dOp pIsNot (dUse 1) (ret .non)) (dOp pEq (dCall 1 den_made_charter (dCons (dUse 0) (dNil))) (dUse 0)))))
@[irreducible] noncomputable def den__law_is_told : List PV → Stt → Res := runD 3 2 body__law_is_told
/-- _law_bearable(_law_book_here); names: 0 _law_book_here, 1 _law_one, 2 _law_other, 3 _law_both, 4 _law_fate, 5 _law_second -/
@[irreducible] noncomputable def body__law_bearable : Cd Flw := dSeq (dFor (dItems (dUse 0)) (gSet 1) (dFor (dItems (dUse 0)) (gSet 2) (dSeq (dSet 3 (dFrz (dComp (dZipM (dCons (dUse 1) (dCons (dUse 2) (dNil)))) [4, 5] (gTupD 2 (gsCons (gSet 4) (gsCons (gSet 5) (gsNil)))) (dAndT (dB (dOp pIsNot (dOp pIx (dUse 4) (ret (.int 0))) (ret .non))) (dAndT (dB (dOp pIsNot (dOp pIx (dUse 4) (ret (.int 1))) (ret .non))) (dB (dOp pIsNot (dOp pIx (dUse 5) (ret (.int 1))) (ret .non))))) (ret (.int 1))))) (dIf (dB (dOp pEq (dUse 3) (dFrz (dDisp (dNil))))) (dRet (ret (.bl false))) (nxt))))) (dRet (ret (.bl true)))
@[irreducible] noncomputable def den__law_bearable : List PV → Stt → Res := runD 6 1 body__law_bearable
/-- _law_due(_law_ground, _law_book_here); names: 0 _law_ground, 1 _law_book_here -/
@[irreducible] noncomputable def body__law_due : Cd Flw := dSeq (dIf (dB (dOp pLt (dOp pIx (dUse 0) (ret (.int 0))) (ret (.int 41)))) (dRet (dTup (dCons (ret (.str "charter")) (dCons (ret (.int 1)) (dNil))))) (nxt)) (dSeq (dIf (dB (dOp pLt (dOp pIx (dUse 0) (ret (.int 1))) (ret (.int 3)))) (dRet (dTup (dCons (ret (.str "charter")) (dCons (ret (.int 2)) (dNil))))) (nxt)) (dRet (dIfE (dTru (dCall 1 den__law_bearable (dCons (dUse 1) (dNil)))) (ret .non) (dTup (dCons (ret (.str "hopeless")) (dCons (ret (.int 0)) (dNil)))))))
@[irreducible] noncomputable def den__law_due : List PV → Stt → Res := runD 2 2 body__law_due
/-- law(_law_script); names: 0 _law_script, 1 _law_pool_here, 2 _law_plain, 3 _law_turned_here, 4 _law_turn, 5 _law_ground, 6 _law_book_here, 7 _law_thing, 8 _law_due_here -/
@[irreducible] noncomputable def body_law : Cd Flw := dSeq (dSet 1 (dCall 1 den__law_pool (dCons (dUse 0) (dNil)))) (dSeq (dSet 2 (dTup (dCons (dTup (dCons (ret (.int 41)) (dCons (ret (.int 3)) (dCons (dTup (dCons (ret (.int 0)) (dCons (ret (.int 1)) (dCons (ret (.int 2)) (dNil))))) (dNil))))) (dCons (dTup (dCons (dTup (dCons (dTup (dCons (ret .non) (dCons (ret (.int 0)) (dNil)))) (dCons (dTup (dCons (ret (.int 0)) (dCons (ret (.int 0)) (dNil)))) (dCons (dTup (dCons (ret (.int 0)) (dCons (ret (.int 0)) (dNil)))) (dNil))))) (dCons (dTup (dCons (dTup (dCons (ret (.int 0)) (dCons (ret (.int 0)) (dNil)))) (dCons (dTup (dCons (ret .non) (dCons (ret (.int 0)) (dNil)))) (dCons (dTup (dCons (ret (.int 0)) (dCons (ret (.int 0)) (dNil)))) (dNil))))) (dNil)))) (dNil))))) (dSeq (dSet 3 (dTup (dCons (dTup (dCons (dTup (dCons (ret (.int 0)) (dCons (ret .non) (dNil)))) (dCons (dTup (dCons (ret (.int 0)) (dCons (ret (.int 0)) (dNil)))) (dNil)))) (dCons (dTup (dCons (dTup (dCons (ret (.int 0)) (dCons (ret (.int 0)) (dNil)))) (dCons (dTup (dCons (ret (.int 0)) (dCons (ret .non) (dNil)))) (dNil)))) (dNil))))) (dSeq (dIf (dOrT (dNotT (dTru (dCall 2 den__law_is_told (dCons (dUse 2) (dCons (ret .non) (dNil)))))) (dNotT (dTru (dCall 2 den__law_is_told (dCons (dTup (dCons (dTup (dCons (ret (.int 41)) (dCons (ret (.int 3)) (dCons (dTup (dCons (ret (.int 0)) (dCons (ret (.int 41)) (dNil)))) (dNil))))) (dCons (dUse 3) (dNil)))) (dCons (dTup (dCons (ret (.str "hopeless")) (dCons (ret (.int 0)) (dNil)))) (dNil))))))) (dRet (ret (.bl false))) (nxt)) (dSeq (dFor (dRng1 (dCons (ret (.int 3)) (dNil))) (gSet 4) (dSeq (dAsg (dCall 1 den__law_pair (dCons (dUse 1) (dNil))) (gTupD 2 (gsCons (gSet 5) (gsCons (gSet 6) (gsNil))))) (dSeq (dIf (dNotT (dTru (dCall 2 den__law_is_told (dCons (dTup (dCons (dUse 5) (dCons (dUse 6) (dNil)))) (dCons (dCall 2 den__law_due (dCons (dUse 5) (dCons (dUse 6) (dNil)))) (dNil)))))) (dRet (ret (.bl false))) (nxt)) (dSeq (dAsg (dCall 3 den__law_wrong (dCons (dUse 1) (dCons (dUse 5) (dCons (dUse 6) (dNil))))) (gTupD 2 (gsCons (gSet 7) (gsCons (gSet 8) (gsNil))))) (dIf (dNotT (dTru (dCall 2 den__law_is_told (dCons (dUse 7) (dCons (dUse 8) (dNil)))))) (dRet (ret (.bl false))) (nxt)))))) (dRet (dCall 3 den__law_many_right (dCons (dUse 1) (dCons (dUse 2) (dCons (dTup (dCons (dOp pAdd (dOp pAdd (dCut (dOp pIx (dUse 2) (ret (.int 0))) (dNoPart) (dPart (ret (.int 1)))) (dTup (dCons (ret (.int 2)) (dNil)))) (dCut (dOp pIx (dUse 2) (ret (.int 0))) (dPart (ret (.int 2))) (dNoPart))) (dCons (dOp pIx (dUse 2) (ret (.int 1))) (dNil)))) (dNil))))))))))
@[irreducible] noncomputable def den_law : List PV → Stt → Res := runD 9 1 body_law
end FS
set_option Elab.async false
set_option linter.all false
set_option pp.maxSteps 700
set_option maxRecDepth 100000
set_option maxHeartbeats 8000000
namespace FS
open PySem L2
namespace I
section
local macro_rules | `(tactic| walk_at "okm") => `(tactic| first | (exact okMul_l (by omega)) | (exact okMul_r (by omega)) | decide)
local macro_rules | `(tactic| walk_at "fsW") => `(tactic| first
  | (with_reducible refine wp_useL ?_)
  | (with_reducible refine wp_lenL ?_)
  | (with_reducible refine wp_ixL ?_)
  | (with_reducible refine wp_mthL ?_)
  | ((with_reducible refine wp_gtupC ?_ ?_); exact rfl)
  | ((with_reducible refine wp_gtupZ ?_ ?_); exact rfl))
local macro_rules | `(tactic| walk_at "fsE") => `(tactic| first
  | ((with_reducible show ∃ ys, _ = some (Slot.own ys) ∧ _); refine x_own1 rfl ?_)
  | ((with_reducible refine x_mul ?_ ?_); (walk_at "okm"))
  | ((with_reducible refine x_div ?_ ?_ ?_); omega; omega)
  | ((with_reducible refine x_mod ?_ ?_); omega)
  | ((with_reducible refine x_pow ?_ ?_); decide)
  | ((with_reducible show ∃ k, _ = some (PV.bl k) ∧ _); refine x_chain rfl ?_)
  | ((with_reducible show ∃ n ys, _ = PV.ref n ∧ _ = some (SO.lst ys) ∧ _); refine x_mR rfl rfl ?_)
  | ((with_reducible show ∃ w, pIx _ _ _ = some w ∧ _); refine x_ix rfl ?_)
  | ((with_reducible show ∃ w, fLen _ _ = some w ∧ _); refine x_len rfl ?_)
  | ((with_reducible show ∃ w, fInt _ _ = some w ∧ _); refine x_int rfl ?_)
  | ((with_reducible refine x_isi (w := .bl true) ?_ ?_); exact rfl)
  | ((with_reducible refine x_isi (w := .bl false) ?_ ?_); exact rfl)
  | ((with_reducible show ∃ w, fTuple _ _ = some w ∧ _); refine x_tupf rfl ?_)
  | ((with_reducible show ∃ w, fMin _ _ = some w ∧ _); refine x_minf rfl ?_)
  | ((with_reducible show ∃ w, fMax _ _ = some w ∧ _); refine x_maxf rfl ?_)
  | ((with_reducible show ∃ w, pCut _ _ _ _ = some w ∧ _); refine x_pcut rfl ?_)
  | ((with_reducible show ∃ w, itemsOf _ _ = some w ∧ _); refine x_itm rfl ?_)
  | ((with_reducible show ∃ w, itemsF _ = some w ∧ _); refine x_itF rfl ?_)
  | ((with_reducible show ∃ i, _ = PV.int i ∧ _); refine x_part rfl ?_)
  | ((with_reducible show ∃ p q, _ = [p, q] ∧ _); refine x_par rfl ?_)
  | ((with_reducible show ∃ n xs j m, _ = PV.ref n ∧ _ = PV.int j ∧ _ ∧ _ ∧ _); refine x_setR rfl rfl rfl rfl ?_))
local macro_rules | `(tactic| walk_at "fsR") => `(tactic| first
  | ((with_reducible show Wp _ _ _); (walk_at "fsW"))
  | ((with_reducible show Exists _); (walk_at "fsE"))
  | ((with_reducible show LkS _ _ _); first | refine lks_v rfl ?_ | refine lks_o rfl ?_)
  | ((with_reducible show _ ≤ sizeLine ∧ _); refine x_low rfl ?_)
  | ((with_reducible show List.length _ = _ ∧ _); refine x_num rfl ?_))
local macro_rules | `(tactic| walk_at "fs1") => `(tactic| first | (with_reducible refine run1 ?_) | (walk_at "fsR"))
local macro_rules | `(tactic| walk_at "fs0") => `(tactic| first | (with_reducible refine stp1 ?_) | (walk_at "fsR"))
local macro_rules | `(tactic| walk_at "fs") => `(tactic| repeat (walk_at "fs1"))
local macro_rules | `(tactic| walk_at "fsp") => `(tactic| (with_reducible refine x_spl ?_ ?_) <;> (intro h; first | (simp only [Bool.not_true, Bool.not_false, reduceCtorEq, decide_eq_true_eq, decide_eq_false_iff_not, Bool.not_eq_true', Bool.not_eq_false', Bool.and_eq_true, Int.not_lt, Int.not_le, Bool.or_eq_true, Bool.and_eq_false_iff, Bool.or_eq_false_iff, Bool.false_and, Bool.true_and, Bool.or_false, Bool.false_or, beq_self_eq_true, Bool.true_or, List.isEmpty_nil, List.isEmpty_cons] at h) | skip))
local macro_rules | `(tactic| walk_at "fss") => `(tactic| repeat' (first | (walk_at "fs1") | (walk_at "fsp")))
/-- the pool: its ints, its own list, and what lies behind -/
def Pool (S : Stt) : Prop := ∃ (a b : Int) (ns : List Int) (r : Stt), S = .lst (ns.map PV.int) :: .lst [.int a, .int b, .ref 0] :: r ∧ 0 ≤ a
theorem fn_pool (ns : List Int) : Fn (den__law_pool [.scr ns] []) (fun p S => p = .ref 1 ∧ Pool S) noR := by
  unfold den__law_pool
  with_reducible refine fn_run ?_ ?_
  exact rfl
  unfold body__law_pool
  walk_at "fss"
  · cases ns with
    | nil => simp at *
    | cons n ns =>
      refine x_ix (w := .int n) (by show (atI (n :: ns) 0).map PV.int = _; rw [atI_zero]; rfl) ?_
      walk_at "fss"
      all_goals exact ⟨rfl, _, _, _, [], rfl, by omega⟩
  all_goals exact ⟨rfl, _, _, _, [], rfl, by omega⟩
theorem fn_draw (S : Stt) (h : Pool S) (many : Int) (h0 : 0 < many) (h1 : many < 1000000000000000000000) : Fn (den__law_draw [.ref 1, .int many] S) (fun p S => Pool S ∧ ∃ v, p = .int v ∧ 0 ≤ v ∧ v < many) noR := by
  obtain ⟨a, b, ns, r, rfl, ha⟩ := h
  have hm := fun a => Int.emod_nonneg a (Int.ne_of_gt h0)
  have hm2 := fun a => Int.emod_lt_of_pos a h0
  have hd := fun a h => Int.ediv_nonneg (a := a) (b := many) h (Int.le_of_lt h0)
  have hn : ∀ b r, pNe (.lst (ns.map PV.int) :: .lst [.int a, .int b, .ref 0] :: r) (.ref 0) (.lst []) = some (.bl (!ns.isEmpty)) := fun b r => by
    show (if (okd 60 (.lst (ns.map PV.int)) && _ && _ && _) = true then some (PV.bl (!eqv (.lst (ns.map PV.int)) (.lst []))) else none) = _
    rw [okd_ints, eqv_nil]
    rfl
  unfold den__law_draw
  with_reducible refine fn_run ?_ ?_
  exact rfl
  unfold body__law_draw
  walk_at "fss"
  · refine ⟨_, hn _ _, ?_⟩
    cases ns with
    | nil =>
      walk_at "fss"
      all_goals first | omega | exact ⟨⟨_, _, [], r, rfl, by first | omega | exact hd _ (by omega)⟩, _, rfl, hm _, hm2 _⟩
    | cons n ns =>
      walk_at "fss"
      · refine x_mf rfl pop0 ?_
        walk_at "fss"
        all_goals exact ⟨⟨_, _, ns, r, rfl, by first | omega | exact hd _ (by omega)⟩, _, rfl, hm _, hm2 _⟩
      all_goals exact absurd ‹(n :: ns).isEmpty = true› Bool.false_ne_true
  all_goals exact ⟨⟨_, _, ns, r, rfl, by first | omega | exact hd _ (by omega)⟩, _, rfl, hm _, hm2 _⟩
theorem go_draw {S : Stt} {many : Int} {Q : PV → Stt → Prop} {R : Str → PV → Stt → Prop} (h : Pool S) (h0 : 0 < many) (h1 : many < 1000000000000000000000) (k : ∀ S' v, Pool S' → 0 ≤ v → v < many → Q (.int v) S') : Fn (den__law_draw [.ref 1, .int many] S) Q R :=
  Fn.mono (fn_draw S h many h0 h1) (fun p s ⟨a, v, e, b, c⟩ => e ▸ k s v a b c) fun _ _ _ h => h.elim
theorem fn_pick (S : Stt) (h : Pool S) (xs : List PV) (hx : xs ≠ []) (hl : xs.length < 1000000) : Fn (den__law_pick [.ref 1, .lst xs] S) (fun p S => Pool S ∧ p ∈ xs) noR := by
  unfold den__law_pick
  with_reducible refine fn_run ?_ ?_
  exact rfl
  unfold body__law_pick
  walk_at "fss"
  have h0 : 0 < xs.length := List.length_pos_iff.mpr hx
  refine no_implicit_lambda% (Fn.mono (fn_draw _ h _ (by omega) (by omega)) (fun p s ⟨h1, v, e, h2, h3⟩ => ?_) fun _ _ _ h => h)
  subst e
  obtain ⟨x, m, e⟩ := atI_of h2 h3
  exact ⟨x, e, h1, m⟩
theorem go_pick {S : Stt} {xs : List PV} {Q : PV → Stt → Prop} {R : Str → PV → Stt → Prop} (h : Pool S) (h0 : xs ≠ []) (h1 : xs.length < 1000000) (k : ∀ S' p, Pool S' → p ∈ xs → Q p S') : Fn (den__law_pick [.ref 1, .lst xs] S) Q R :=
  Fn.mono (fn_pick S h xs h0 h1) (fun p s ⟨a, b⟩ => k s p a b) fun _ _ _ h => h.elim
theorem fn_is_whole (S : Stt) (p : PV) (lo hi : Int) (h : Th p) : Fn (den_is_whole [p, .int lo, .int hi] S) (fun q s => s = S ∧ q = .bl (isW lo hi p)) noR := by
  unfold den_is_whole
  with_reducible refine fn_run ?_ ?_
  exact rfl
  unfold body_is_whole
  rcases h with ⟨n, rfl⟩ | ⟨b, rfl⟩ | rfl | ⟨x, rfl⟩ | ⟨xs, rfl⟩
  · walk_at "fss"
    all_goals refine ⟨rfl, ?_⟩
    all_goals refine congrArg PV.bl ?_
    all_goals simp only [isW]
    all_goals first | (rw [decide_eq_true (by omega : lo ≤ n)]; rfl) | (rw [decide_eq_false (by omega : ¬ lo ≤ n)]; rfl)
  all_goals walk_at "fss"
  all_goals exact ⟨rfl, rfl⟩
theorem fn_is_prime (S : Stt) (p : PV) (h : Th p) : Fn (den_is_prime [p] S) (fun q s => s = S ∧ q = .bl (isP p)) noR := by
  unfold den_is_prime
  with_reducible refine fn_run ?_ ?_
  exact rfl
  unfold body_is_prime
  walk_at "fss"
  refine no_implicit_lambda% (Fn.mono (fn_is_whole S p 2 65521 h) (fun q s h1 => ?_) fun _ _ _ h => h)
  obtain ⟨rfl, rfl⟩ := h1
  walk_at "fss"
  · rename_i hw
    refine ⟨rfl, ?_⟩
    cases p with
    | int n =>
      have : ¬ prm n := fun z => by simp [isW, z.1, z.2.1] at hw
      simp [isP, this]
    | _ => rfl
  · rename_i hw
    cases p with
    | int n =>
      simp only [isW, Bool.and_eq_true, decide_eq_true_eq] at hw
      refine wp_while (fun e s' => s' = s ∧ ∃ d, e = [.val (.int n), .val (.int d)] ∧ 2 ≤ d ∧ d ≤ n ∧ ∀ k, 2 ≤ k → k < d → n % k ≠ 0) (fun e s => match e with | [_, .val (.int d)] => (n - d).toNat | _ => 0) ⟨rfl, 2, rfl, by omega, by omega, fun k h1 h2 => by omega⟩ ?_
      intro e s' ⟨e1, d, e2, h1, h2, h3⟩
      subst e1 e2
      walk_at "fss"
      · rename_i hk
        refine ⟨rfl, ?_⟩
        have : ¬ prm n := fun z => z.2.2 d h1 ‹d * d ≤ n› hk
        simp [isP, this]
      · rename_i hd _
        have hq := sq_ge h1
        refine ⟨⟨rfl, d + 1, rfl, by omega, by omega, fun k q1 q2 => ?_⟩, ?_⟩
        · by_cases q : k = d
          · subst q
            assumption
          · exact h3 k q1 (by omega)
        · show (n - (d + 1)).toNat < (n - d).toNat
          omega
      · rename_i hd
        refine ⟨rfl, ?_⟩
        have : prm n := ⟨hw.1, hw.2, fun k q1 q2 => h3 k q1 (by
          rcases Int.lt_or_le k d with q | q
          · exact q
          · have := sq_le (by omega) q
            omega)⟩
        simp [isP, this]
    | _ => cases hw
/-! grounds -/
structure Gnd (p k : Int) (xs : List Int) : Prop where
  pr : prm p
  k1 : 1 ≤ k
  k2 : k ≤ 12
  n1 : 1 ≤ xs.length
  n2 : xs.length ≤ 8
  rg : ∀ x ∈ xs, 0 ≤ x ∧ x ≤ p
  nd : xs.Nodup
def iL (xs : List Int) : List PV := xs.map PV.int
abbrev tupI (xs : List Int) : PV := .tup (iL xs)
abbrev gv (p k : Int) (xs : List Int) : PV := .tup [.int p, .int k, tupI xs]
theorem ints_len (xs : List Int) : (iL xs).length = xs.length := List.length_map ..
theorem ints_get {xs : List Int} {i : Nat} {x : Int} (h : xs[i]? = some x) : (iL xs)[i]? = some (.int x) := by
  unfold iL
  rw [List.getElem?_map, h]
  rfl
theorem ints_at {xs : List Int} {i : Nat} {x : Int} (h : xs[i]? = some x) : atI (iL xs) (i : Int) = some (.int x) := atI_nat (ints_get h)
theorem ints_take (xs : List Int) (n : Nat) : (iL xs).take n = iL (xs.take n) := by
  unfold iL
  rw [List.map_take]
theorem okd_intsT (k : Nat) (xs : List Int) : okd (k + 1) (tupI xs) = true := by
  show (xs.map PV.int).all (okd k) = true
  rw [List.all_map]
  exact List.all_eq_true.mpr fun _ _ => by cases k <;> rfl
theorem any_ints (y : Int) : ∀ xs : List Int, (iL xs).any (fun z => eqv z (.int y)) = decide (y ∈ xs)
  | [] => rfl
  | x :: xs => by
    show (eqv (.int x) (.int y) || (iL xs).any _) = _
    rw [any_ints y xs, eqv_int]
    by_cases h : y = x
    · subst h
      simp
    · have h2 : ¬ x = y := fun e => h e.symm
      simp [h, h2]
theorem in_ints (S : Stt) (y : Int) (xs : List Int) : pInA S (.int y) (tupI xs) = some (.bl (decide (y ∈ xs))) := by
  show (pIn S (.int y) (tupI xs)).or (if (okd 60 (.int y) && okd 60 (tupI xs)) = true then some (.bl ((iL xs).any fun z => eqv z (.int y))) else none) = _
  rw [okd_intsT, any_ints]
  rfl
theorem fn_are_points (S : Stt) (p : Int) (xs : List Int) (hp : 0 ≤ p) (h1 : 1 ≤ xs.length) (h2 : xs.length ≤ 8) (hr : ∀ x ∈ xs, 0 ≤ x ∧ x ≤ p) (hn : xs.Nodup) : Fn (den_are_points [.int p, tupI xs] S) (fun q s => s = S ∧ q = .bl true) noR := by
  have hl := ints_len xs
  unfold den_are_points
  with_reducible refine fn_run ?_ ?_
  exact rfl
  unfold body_are_points
  walk_at "fss"
  · omega
  rotate_left
  · omega
  · with_reducible refine wp_for ?_
    walk_at "fss"
    refine x_rng1 (by omega) (by omega) ?_
    rw [hl, Int.toNat_natCast]
    refine ⟨fun i e s => s = S ∧ ∃ x, e = [.val (.int p), .val (tupI xs), x], ⟨rfl, _, rfl⟩, fun i t e s hi ⟨e1, x, e2⟩ => ?_, fun e s ⟨e1, x, e2⟩ => ?_⟩
    · obtain ⟨hj, rfl⟩ := rng_get _ _ _ _ hi
      subst e1 e2
      have hx : xs[i]? = some xs[i] := List.getElem?_eq_getElem hj
      walk_at "fss"
      refine x_ix (ints_at hx) ?_
      walk_at "fss"
      refine no_implicit_lambda% (Fn.mono (fn_is_whole s (.int xs[i]) 0 p (.inl ⟨_, rfl⟩)) (fun q s' ⟨e1, e2⟩ => ?_) fun _ _ _ h => h.elim)
      subst e1 e2
      have hw : isW 0 p (.int xs[i]) = true := by
        obtain ⟨q1, q2⟩ := hr xs[i] (List.getElem_mem hj)
        simp [isW, q1, q2]
      rw [hw]
      walk_at "fss"
      refine x_ix (ints_at hx) ?_
      walk_at "fss"
      rw [cut_to, ints_take]
      have hni : ¬ xs[i] ∈ xs.take i := fun hm => by
        obtain ⟨k, hk, he⟩ := List.getElem_of_mem hm
        rw [List.getElem_take] at he
        have hk2 : k < i := by
          rw [List.length_take] at hk
          omega
        exact (List.pairwise_iff_getElem.mp hn) k i (by omega) hj hk2 he
      refine ⟨_, in_ints _ _ _, ?_⟩
      rw [decide_eq_false hni]
      walk_at "fss"
      exact ⟨rfl, _, rfl⟩
    · subst e1 e2
      walk_at "fss"
      exact ⟨rfl, rfl⟩
theorem fn_made_ground (S : Stt) (p k : Int) (xs : List Int) (h : Gnd p k xs) : Fn (den_made_ground [gv p k xs] S) (fun q s => s = S ∧ q = gv p k xs) noR := by
  have hp : isP (.int p) = true := by simp [isP, h.pr]
  have hp1 := h.pr.1
  unfold den_made_ground
  with_reducible refine fn_run ?_ ?_
  exact rfl
  unfold body_made_ground
  walk_at "fss"
  · exact absurd rfl ‹¬ (([PV.int p, PV.int k, tupI xs].length : Nat) : Int) = 3›
  refine no_implicit_lambda% (Fn.mono (fn_is_prime S (.int p) (.inl ⟨_, rfl⟩)) (fun q s' ⟨e1, e2⟩ => ?_) fun _ _ _ h => h.elim)
  subst e1 e2
  rw [hp]
  walk_at "fss"
  refine no_implicit_lambda% (Fn.mono (fn_is_whole s' (.int k) 1 12 (.inl ⟨_, rfl⟩)) (fun q s' ⟨e1, e2⟩ => ?_) fun _ _ _ h => h.elim)
  subst e1 e2
  rw [show isW 1 12 (.int k) = true by simp [isW, h.k1, h.k2]]
  walk_at "fss"
  refine no_implicit_lambda% (Fn.mono (fn_are_points s' p xs (by omega) h.n1 h.n2 h.rg h.nd) (fun q s' ⟨e1, e2⟩ => ?_) fun _ _ _ h => h.elim)
  subst e1 e2
  walk_at "fss"
  exact ⟨rfl, rfl⟩
end
end I
end FS
set_option Elab.async false
set_option linter.all false
set_option pp.maxSteps 700
set_option maxRecDepth 100000
set_option maxHeartbeats 8000000
namespace FS
open PySem L2
namespace I
section
local macro_rules | `(tactic| walk_at "okm") => `(tactic| first | (exact okMul_l (by omega)) | (exact okMul_r (by omega)) | decide)
local macro_rules | `(tactic| walk_at "fsW") => `(tactic| first
  | (with_reducible refine wp_useL ?_)
  | (with_reducible refine wp_lenL ?_)
  | (with_reducible refine wp_ixL ?_)
  | (with_reducible refine wp_mthL ?_)
  | ((with_reducible refine wp_gtupC ?_ ?_); exact rfl)
  | ((with_reducible refine wp_gtupZ ?_ ?_); exact rfl))
local macro_rules | `(tactic| walk_at "fsE") => `(tactic| first
  | ((with_reducible show ∃ ys, _ = some (Slot.own ys) ∧ _); refine x_own1 rfl ?_)
  | ((with_reducible refine x_mul ?_ ?_); (walk_at "okm"))
  | ((with_reducible refine x_div ?_ ?_ ?_); omega; omega)
  | ((with_reducible refine x_mod ?_ ?_); omega)
  | ((with_reducible refine x_pow ?_ ?_); decide)
  | ((with_reducible show ∃ k, _ = some (PV.bl k) ∧ _); refine x_chain rfl ?_)
  | ((with_reducible show ∃ n ys, _ = PV.ref n ∧ _ = some (SO.lst ys) ∧ _); refine x_mR rfl rfl ?_)
  | ((with_reducible show ∃ w, pIx _ _ _ = some w ∧ _); refine x_ix rfl ?_)
  | ((with_reducible show ∃ w, fLen _ _ = some w ∧ _); refine x_len rfl ?_)
  | ((with_reducible show ∃ w, fInt _ _ = some w ∧ _); refine x_int rfl ?_)
  | ((with_reducible refine x_isi (w := .bl true) ?_ ?_); exact rfl)
  | ((with_reducible refine x_isi (w := .bl false) ?_ ?_); exact rfl)
  | ((with_reducible show ∃ w, fTuple _ _ = some w ∧ _); refine x_tupf rfl ?_)
  | ((with_reducible show ∃ w, fMin _ _ = some w ∧ _); refine x_minf rfl ?_)
  | ((with_reducible show ∃ w, fMax _ _ = some w ∧ _); refine x_maxf rfl ?_)
  | ((with_reducible show ∃ w, pCut _ _ _ _ = some w ∧ _); refine x_pcut rfl ?_)
  | ((with_reducible show ∃ w, itemsOf _ _ = some w ∧ _); refine x_itm rfl ?_)
  | ((with_reducible show ∃ w, itemsF _ = some w ∧ _); refine x_itF rfl ?_)
  | ((with_reducible show ∃ i, _ = PV.int i ∧ _); refine x_part rfl ?_)
  | ((with_reducible show ∃ p q, _ = [p, q] ∧ _); refine x_par rfl ?_)
  | ((with_reducible show ∃ n xs j m, _ = PV.ref n ∧ _ = PV.int j ∧ _ ∧ _ ∧ _); refine x_setR rfl rfl rfl rfl ?_))
local macro_rules | `(tactic| walk_at "fsR") => `(tactic| first
  | ((with_reducible show Wp _ _ _); (walk_at "fsW"))
  | ((with_reducible show Exists _); (walk_at "fsE"))
  | ((with_reducible show LkS _ _ _); first | refine lks_v rfl ?_ | refine lks_o rfl ?_)
  | ((with_reducible show _ ≤ sizeLine ∧ _); refine x_low rfl ?_)
  | ((with_reducible show List.length _ = _ ∧ _); refine x_num rfl ?_))
local macro_rules | `(tactic| walk_at "fs1") => `(tactic| first | (with_reducible refine run1 ?_) | (walk_at "fsR"))
local macro_rules | `(tactic| walk_at "fs0") => `(tactic| first | (with_reducible refine stp1 ?_) | (walk_at "fsR"))
local macro_rules | `(tactic| walk_at "fs") => `(tactic| repeat (walk_at "fs1"))
local macro_rules | `(tactic| walk_at "fsp") => `(tactic| (with_reducible refine x_spl ?_ ?_) <;> (intro h; first | (simp only [Bool.not_true, Bool.not_false, reduceCtorEq, decide_eq_true_eq, decide_eq_false_iff_not, Bool.not_eq_true', Bool.not_eq_false', Bool.and_eq_true, Int.not_lt, Int.not_le, Bool.or_eq_true, Bool.and_eq_false_iff, Bool.or_eq_false_iff, Bool.false_and, Bool.true_and, Bool.or_false, Bool.false_or, beq_self_eq_true, Bool.true_or, List.isEmpty_nil, List.isEmpty_cons] at h) | skip))
local macro_rules | `(tactic| walk_at "fss") => `(tactic| repeat' (first | (walk_at "fs1") | (walk_at "fsp")))
local macro_rules | `(tactic| walk_at "fd1") => `(tactic| first
  | ((with_reducible refine go_draw ?_ ?_ ?_ ?_); assumption; (first | omega | decide); (first | omega | decide); intro s' v hp hv0 hv1)
  | (walk_at "fs1") | (walk_at "fsp"))
local macro_rules | `(tactic| walk_at "fdi1") => `(tactic| first
  | ((with_reducible refine go_draw ?_ ?_ ?_ ?_); assumption; (first | omega | decide); (first | omega | decide); intro s' v hp hv0 hv1)
  | (walk_at "fs0") | (walk_at "fsp"))
local macro_rules | `(tactic| walk_at "fd") => `(tactic| repeat' (walk_at "fd1"))
local macro_rules | `(tactic| walk_at "fdi") => `(tactic| repeat' ((fail_if_success (with_reducible show Wp (dSeq (dIf _ _ _) _ _ _) _ _)); (walk_at "fdi1")))
/-! rows of cells -/
theorem app_ok {xs : List PV} {p : PV} (h : xs.length < sizeLine) : mAppend xs [p] = some (.non, xs ++ [p]) := by
  show (if xs.length < sizeLine then some (PV.non, xs ++ [p]) else none) = _
  rw [if_pos h]
theorem small_line {n : Nat} (h : n < 100000) : n < sizeLine := Nat.lt_trans h (by decide)
theorem iL_app (xs ys : List Int) : iL xs ++ iL ys = iL (xs ++ ys) := by
  unfold iL
  rw [List.map_append]
theorem take_next {α : Type} {xs : List α} {m : Nat} {a : α} (h : xs[m]? = some a) : xs.take (m + 1) = xs.take m ++ [a] := by
  rw [List.take_succ, h]
  rfl
/-! the law's grounds -/
theorem pop_at {xs : List PV} {i : Nat} {p : PV} (h : xs[i]? = some p) (hi : i < 1000000) : mPopAt xs [.int i] = some (p, xs.eraseIdx i) := by
  have hl : i < xs.length := (List.getElem?_eq_some_iff.mp h).1
  unfold mPopAt
  simp only []
  rw [if_pos (by omega), ixN_nat hl]
  simp only [h, Option.map_some]
theorem iL_erase : ∀ (xs : List Int) (i : Nat), (iL xs).eraseIdx i = iL (xs.eraseIdx i)
  | [], i => by cases i <;> rfl
  | x :: xs, 0 => rfl
  | x :: xs, i + 1 => by
    show PV.int x :: (iL xs).eraseIdx i = PV.int x :: iL (xs.eraseIdx i)
    rw [iL_erase xs i]
def rgI (n : Nat) : List Int := (List.range n).map fun (i : Nat) => (i : Int)
theorem rgI_iL (n : Nat) : ((List.range n).map fun (i : Nat) => PV.int i) = iL (rgI n) := by
  unfold iL rgI
  rw [List.map_map]
  rfl
theorem rgI_nd (n : Nat) : (rgI n).Nodup := by
  unfold rgI
  refine List.pairwise_map.mpr (List.Pairwise.imp (fun {a b} h e => h ?_) List.nodup_range)
  exact Int.ofNat.inj e
theorem rgI_mem {n : Nat} {x : Int} (h : x ∈ rgI n) : 0 ≤ x ∧ x < n := by
  unfold rgI at h
  obtain ⟨i, hi, rfl⟩ := List.mem_map.mp h
  have := List.mem_range.mp hi
  omega
theorem erase_perm : ∀ (l : List Int) (i : Nat) (h : i < l.length), (l[i] :: l.eraseIdx i).Perm l
  | x :: l, 0, _ => List.Perm.refl _
  | x :: l, i + 1, h => (List.Perm.swap ..).trans ((erase_perm l i (by simpa using h)).cons x)
theorem fn_turnedP (S : Stt) (h : Pool S) (n : Nat) (hn : n < 1000) : Fn (den__law_turned [.ref 1, .int n] S) (fun q s => Pool s ∧ ∃ l : List Int, q = .lst (iL l) ∧ l.Perm (rgI n)) noR := by
  unfold den__law_turned
  with_reducible refine fn_run ?_ ?_
  exact rfl
  unfold body__law_turned
  walk_at "fd"
  refine ⟨n, rfl, ⟨by unfold okR; simp; omega, by omega⟩, ?_⟩
  walk_at "fd"
  with_reducible refine wp_for ?_
  walk_at "fd"
  refine x_rng1 (by omega) (by omega) ?_
  rw [Int.toNat_natCast]
  refine ⟨fun t e s => Pool s ∧ ∃ (lf fd : List Int) (x : Slot), e = [.val (.ref 1), .val (.int n), .own (iL lf), .own (iL fd), x] ∧ (lf ++ fd).Perm (rgI n) ∧ fd.length = t, ⟨h, rgI n, [], _, by rw [← rgI_iL]; rfl, by rw [List.append_nil], rfl⟩, fun t q e s hi ⟨hP, lf, fd, x, e2, hp, hl⟩ => ?_, fun e s ⟨hP, lf, fd, x, e2, hp, hl⟩ => ?_⟩
  · obtain ⟨hj, rfl⟩ := rng_get _ _ _ _ hi
    have hlen := hp.length_eq
    have hrl : (rgI n).length = n := by simp [rgI]
    rw [List.length_append, hrl] at hlen
    have hl2 := ints_len lf
    subst e2
    walk_at "fd"
    rename_i s' v hP' hv0 hv1
    obtain ⟨i, rfl⟩ : ∃ i : Nat, v = i := ⟨v.toNat, by omega⟩
    have hi2 : i < lf.length := by omega
    refine x_mfO rfl (pop_at (ints_get (List.getElem?_eq_getElem hi2)) (by omega)) ?_
    walk_at "fd"
    refine x_mfO rfl (app_ok (small_line (by rw [ints_len]; omega))) ?_
    walk_at "fd"
    refine ⟨hP', lf.eraseIdx i, fd ++ [lf[i]], _, (by rw [iL_erase, ← iL_app]; rfl), ?_, by simp [hl]⟩
    have hpe : (lf[i] :: lf.eraseIdx i).Perm lf := erase_perm lf i hi2
    refine List.Perm.trans ?_ hp
    refine List.Perm.trans ?_ (hpe.append_right fd)
    rw [← List.append_assoc]
    exact List.perm_append_comm.trans (List.Perm.refl _)
  · subst e2
    rw [List.length_map, List.length_range] at hl
    walk_at "fd"
    have hlen := hp.length_eq
    have hrl : (rgI n).length = n := by simp [rgI]
    rw [List.length_append, hrl] at hlen
    have h0 : lf = [] := List.length_eq_zero_iff.mp (by omega)
    subst h0
    exact ⟨hP, fd, rfl, hp⟩
theorem fn_turned (S : Stt) (h : Pool S) (n : Nat) (hn : n < 1000) : Fn (den__law_turned [.ref 1, .int n] S) (fun q s => Pool s ∧ ∃ l : List Int, q = .lst (iL l) ∧ l.length = n ∧ l.Nodup ∧ ∀ x ∈ l, 0 ≤ x ∧ x < n) noR :=
  Fn.mono (fn_turnedP S h n hn) (fun q s ⟨hP, l, e, hp⟩ => ⟨hP, l, e, by rw [hp.length_eq]; simp [rgI], (hp.nodup_iff).mpr (rgI_nd n), fun x hx => rgI_mem (hp.mem_iff.mp hx)⟩) fun _ _ _ h => h
end
end I
end FS
set_option Elab.async false
set_option linter.all false
set_option pp.maxSteps 700
set_option maxRecDepth 100000
set_option maxHeartbeats 8000000
namespace FS
open PySem L2
namespace I
section
local macro_rules | `(tactic| walk_at "okm") => `(tactic| first | (exact okMul_l (by omega)) | (exact okMul_r (by omega)) | decide)
local macro_rules | `(tactic| walk_at "fsW") => `(tactic| first
  | (with_reducible refine wp_useL ?_)
  | (with_reducible refine wp_lenL ?_)
  | (with_reducible refine wp_ixL ?_)
  | (with_reducible refine wp_mthL ?_)
  | ((with_reducible refine wp_gtupC ?_ ?_); exact rfl)
  | ((with_reducible refine wp_gtupZ ?_ ?_); exact rfl))
local macro_rules | `(tactic| walk_at "fsE") => `(tactic| first
  | ((with_reducible show ∃ ys, _ = some (Slot.own ys) ∧ _); refine x_own1 rfl ?_)
  | ((with_reducible refine x_mul ?_ ?_); (walk_at "okm"))
  | ((with_reducible refine x_div ?_ ?_ ?_); omega; omega)
  | ((with_reducible refine x_mod ?_ ?_); omega)
  | ((with_reducible refine x_pow ?_ ?_); decide)
  | ((with_reducible show ∃ k, _ = some (PV.bl k) ∧ _); refine x_chain rfl ?_)
  | ((with_reducible show ∃ n ys, _ = PV.ref n ∧ _ = some (SO.lst ys) ∧ _); refine x_mR rfl rfl ?_)
  | ((with_reducible show ∃ w, pIx _ _ _ = some w ∧ _); refine x_ix rfl ?_)
  | ((with_reducible show ∃ w, fLen _ _ = some w ∧ _); refine x_len rfl ?_)
  | ((with_reducible show ∃ w, fInt _ _ = some w ∧ _); refine x_int rfl ?_)
  | ((with_reducible refine x_isi (w := .bl true) ?_ ?_); exact rfl)
  | ((with_reducible refine x_isi (w := .bl false) ?_ ?_); exact rfl)
  | ((with_reducible show ∃ w, fTuple _ _ = some w ∧ _); refine x_tupf rfl ?_)
  | ((with_reducible show ∃ w, fMin _ _ = some w ∧ _); refine x_minf rfl ?_)
  | ((with_reducible show ∃ w, fMax _ _ = some w ∧ _); refine x_maxf rfl ?_)
  | ((with_reducible show ∃ w, pCut _ _ _ _ = some w ∧ _); refine x_pcut rfl ?_)
  | ((with_reducible show ∃ w, itemsOf _ _ = some w ∧ _); refine x_itm rfl ?_)
  | ((with_reducible show ∃ w, itemsF _ = some w ∧ _); refine x_itF rfl ?_)
  | ((with_reducible show ∃ i, _ = PV.int i ∧ _); refine x_part rfl ?_)
  | ((with_reducible show ∃ p q, _ = [p, q] ∧ _); refine x_par rfl ?_)
  | ((with_reducible show ∃ n xs j m, _ = PV.ref n ∧ _ = PV.int j ∧ _ ∧ _ ∧ _); refine x_setR rfl rfl rfl rfl ?_))
local macro_rules | `(tactic| walk_at "fsR") => `(tactic| first
  | ((with_reducible show Wp _ _ _); (walk_at "fsW"))
  | ((with_reducible show Exists _); (walk_at "fsE"))
  | ((with_reducible show LkS _ _ _); first | refine lks_v rfl ?_ | refine lks_o rfl ?_)
  | ((with_reducible show _ ≤ sizeLine ∧ _); refine x_low rfl ?_)
  | ((with_reducible show List.length _ = _ ∧ _); refine x_num rfl ?_))
local macro_rules | `(tactic| walk_at "fs1") => `(tactic| first | (with_reducible refine run1 ?_) | (walk_at "fsR"))
local macro_rules | `(tactic| walk_at "fs0") => `(tactic| first | (with_reducible refine stp1 ?_) | (walk_at "fsR"))
local macro_rules | `(tactic| walk_at "fs") => `(tactic| repeat (walk_at "fs1"))
local macro_rules | `(tactic| walk_at "fsp") => `(tactic| (with_reducible refine x_spl ?_ ?_) <;> (intro h; first | (simp only [Bool.not_true, Bool.not_false, reduceCtorEq, decide_eq_true_eq, decide_eq_false_iff_not, Bool.not_eq_true', Bool.not_eq_false', Bool.and_eq_true, Int.not_lt, Int.not_le, Bool.or_eq_true, Bool.and_eq_false_iff, Bool.or_eq_false_iff, Bool.false_and, Bool.true_and, Bool.or_false, Bool.false_or, beq_self_eq_true, Bool.true_or, List.isEmpty_nil, List.isEmpty_cons] at h) | skip))
local macro_rules | `(tactic| walk_at "fss") => `(tactic| repeat' (first | (walk_at "fs1") | (walk_at "fsp")))
/-! plain data -/
mutual
def thb : PV → Bool
  | .non => true
  | .bl _ => true
  | .int _ => true
  | .str _ => true
  | .tup xs => thbs xs
  | _ => false
def thbs : List PV → Bool
  | [] => true
  | x :: xs => thb x && thbs xs
end
theorem thbs_mem : ∀ {xs : List PV} {x : PV}, thbs xs = true → x ∈ xs → thb x = true
  | y :: xs, x, h, hm => by
    simp only [thbs, Bool.and_eq_true] at h
    rcases List.mem_cons.mp hm with rfl | hm
    · exact h.1
    · exact thbs_mem h.2 hm
theorem thbs_of : ∀ {xs : List PV}, (∀ x ∈ xs, thb x = true) → thbs xs = true
  | [], _ => rfl
  | y :: xs, h => by
    simp only [thbs, Bool.and_eq_true]
    exact ⟨h y (by simp), thbs_of fun x hx => h x (by simp [hx])⟩
theorem thb_th : ∀ {p : PV}, thb p = true → Th p
  | .non, _ => .inr (.inr (.inl rfl))
  | .bl b, _ => .inr (.inl ⟨b, rfl⟩)
  | .int n, _ => .inl ⟨n, rfl⟩
  | .str x, _ => .inr (.inr (.inr (.inl ⟨x, rfl⟩)))
  | .tup xs, _ => .inr (.inr (.inr (.inr ⟨xs, rfl⟩)))
  | .tuz xs, h => by cases h
  | .lst xs, h => by cases h
  | .scr ns, h => by cases h
  | .ref n, h => by cases h
  | .raw v, h => by cases h
mutual
theorem eqv_rf : ∀ p : PV, thb p = true → PyData.eqv p.toD p.toD = true
  | .non, _ => by simp [PV.toD, PyData.eqv]
  | .bl b, _ => by simp [PV.toD, PyData.eqv]
  | .int n, _ => by simp [PV.toD, PyData.eqv]
  | .str x, _ => by simp [PV.toD, PyData.eqv]
  | .tup xs, h => by
    simp only [PV.toD, PyData.eqv]
    exact eqv_rfs xs h
  | .tuz xs, h => by cases h
  | .lst xs, h => by cases h
  | .scr ns, h => by cases h
  | .ref n, h => by cases h
  | .raw v, h => by cases h
theorem eqv_rfs : ∀ xs : List PV, thbs xs = true → PyData.eqvAll (toDs xs) (toDs xs) = true
  | [], _ => by simp [toDs, PyData.eqvAll]
  | x :: xs, h => by
    simp only [thbs, Bool.and_eq_true] at h
    simp only [toDs, PyData.eqvAll, Bool.and_eq_true]
    exact ⟨eqv_rf x h.1, eqv_rfs xs h.2⟩
end
theorem okd_tup {k : Nat} {xs : List PV} (h : ∀ x ∈ xs, okd k x = true) : okd (k + 1) (.tup xs) = true := by
  show xs.all (okd k) = true
  exact List.all_eq_true.mpr h
theorem x_neS {s : Stt} {xs : List PV} {Q : PV → Prop} (h1 : okd 60 (.tup xs) = true) (h2 : thbs xs = true) (h : Q (.bl false)) : ∃ w, pNe s (.tup xs) (.tup xs) = some w ∧ Q w :=
  ⟨_, pNe_v h1 h1 rfl rfl (show eqv (.tup xs) (.tup xs) = true from eqv_rf (.tup xs) h2), h⟩
theorem x_eqS {s : Stt} {xs : List PV} {Q : PV → Prop} (h1 : okd 60 (.tup xs) = true) (h2 : thbs xs = true) (h : Q (.bl true)) : ∃ w, pEq s (.tup xs) (.tup xs) = some w ∧ Q w :=
  ⟨_, pEq_v h1 h1 rfl rfl (show eqv (.tup xs) (.tup xs) = true from eqv_rf (.tup xs) h2), h⟩
theorem all_take {f : PV → Bool} {xs : List PV} {i : Nat} {a : PV} (h : xs[i]? = some a) (h1 : (xs.take i).all f = true) (h2 : f a = true) : (xs.take (i + 1)).all f = true := by
  rw [take_next h, List.all_append, h1]
  simp [h2]
theorem all_no {f : PV → Bool} {xs : List PV} {i : Nat} {a : PV} (h : xs[i]? = some a) (h2 : f a = false) : xs.all f = false := by
  refine List.all_eq_false.mpr ⟨a, List.mem_of_getElem? h, by simp [h2]⟩
/-! bounds, fates, rows of a book -/
def isBelow (m : Int) : PV → Bool
  | .int n => decide (0 ≤ n) && decide (n < m)
  | _ => false
theorem fn_is_below (S : Stt) (p : PV) (m : Int) (h : thb p = true) : Fn (den_is_below [p, .int m] S) (fun q s => s = S ∧ q = .bl (isBelow m p)) noR := by
  have h := thb_th h
  unfold den_is_below
  with_reducible refine fn_run ?_ ?_
  exact rfl
  unfold body_is_below
  rcases h with ⟨n, rfl⟩ | ⟨b, rfl⟩ | rfl | ⟨x, rfl⟩ | ⟨xs, rfl⟩
  · walk_at "fss"
    all_goals refine ⟨rfl, ?_⟩
    all_goals refine congrArg PV.bl ?_
    all_goals simp only [isBelow]
    all_goals first | (rw [decide_eq_true (by omega : 0 ≤ n)]; rfl) | (rw [decide_eq_false (by omega : ¬ 0 ≤ n)]; rfl)
  all_goals walk_at "fss"
  all_goals exact ⟨rfl, rfl⟩
def isBound : PV → Bool
  | .non => true
  | p => isBelow 65 p
theorem fn_is_bound (S : Stt) (p : PV) (h : thb p = true) : Fn (den_is_bound [p] S) (fun q s => s = S ∧ q = .bl (isBound p)) noR := by
  have h' := thb_th h
  unfold den_is_bound
  with_reducible refine fn_run ?_ ?_
  exact rfl
  unfold body_is_bound
  rcases h' with ⟨n, rfl⟩ | ⟨b, rfl⟩ | rfl | ⟨x, rfl⟩ | ⟨xs, rfl⟩
  · walk_at "fss"
    refine ⟨_, rfl, ?_⟩
    walk_at "fss"
    exact Fn.mono (show Fn (den_is_below [.int n, .int (64 + 1)] S) _ _ from fn_is_below S (.int n) 65 rfl) (fun q s h => h) fun _ _ _ h => h.elim
  · walk_at "fss"
    refine ⟨_, rfl, ?_⟩
    walk_at "fss"
    exact Fn.mono (show Fn (den_is_below [.bl b, .int (64 + 1)] S) _ _ from fn_is_below S (.bl b) 65 rfl) (fun q s h => h) fun _ _ _ h => h.elim
  · walk_at "fss"
    refine ⟨_, rfl, ?_⟩
    walk_at "fss"
    exact ⟨rfl, rfl⟩
  · walk_at "fss"
    refine ⟨_, rfl, ?_⟩
    walk_at "fss"
    exact Fn.mono (show Fn (den_is_below [.str x, .int (64 + 1)] S) _ _ from fn_is_below S (.str x) 65 rfl) (fun q s h => h) fun _ _ _ h => h.elim
  · walk_at "fss"
    refine ⟨_, rfl, ?_⟩
    walk_at "fss"
    exact Fn.mono (show Fn (den_is_below [.tup xs, .int (64 + 1)] S) _ _ from fn_is_below S (.tup xs) 65 h) (fun q s h => h) fun _ _ _ h => h.elim
def isFate : PV → Bool
  | .tup [a, b] => isBound a && isBound b
  | _ => false
theorem fn_is_fate (S : Stt) (p : PV) (h : thb p = true) : Fn (den_is_fate [p] S) (fun q s => s = S ∧ q = .bl (isFate p)) noR := by
  have h' := thb_th h
  unfold den_is_fate
  with_reducible refine fn_run ?_ ?_
  exact rfl
  unfold body_is_fate
  rcases h' with ⟨n, rfl⟩ | ⟨b, rfl⟩ | rfl | ⟨x, rfl⟩ | ⟨xs, rfl⟩
  · walk_at "fss"
    exact ⟨rfl, rfl⟩
  · walk_at "fss"
    exact ⟨rfl, rfl⟩
  · walk_at "fss"
    exact ⟨rfl, rfl⟩
  · walk_at "fss"
    exact ⟨rfl, rfl⟩
  · rcases xs with _ | ⟨a, _ | ⟨b, _ | ⟨c, r⟩⟩⟩
    · walk_at "fss"
      all_goals first | exact ⟨rfl, rfl⟩ | (rename_i h; exact absurd h (by decide))
    · walk_at "fss"
      all_goals first | exact ⟨rfl, rfl⟩ | (rename_i h; exact absurd h (show ¬ ((1 : Nat) : Int) = 2 by decide))
    · have ha : thb a = true := thbs_mem h (by simp)
      have hb : thb b = true := thbs_mem h (by simp)
      walk_at "fss"
      · refine no_implicit_lambda% (Fn.mono (fn_is_bound S a ha) (fun q s' ⟨e1, e2⟩ => ?_) fun _ _ _ h => h.elim)
        subst e1 e2
        cases hc : isBound a
        · walk_at "fss"
          exact ⟨rfl, by simp [isFate, hc]⟩
        · walk_at "fss"
          refine no_implicit_lambda% (Fn.mono (fn_is_bound s' b hb) (fun q s' ⟨e1, e2⟩ => ?_) fun _ _ _ h => h.elim)
          subst e1 e2
          exact ⟨rfl, by simp [isFate, hc]⟩
      · rename_i h; exact absurd rfl h
    · walk_at "fss"
      all_goals first | exact ⟨rfl, rfl⟩ | (rename_i h; simp at h; omega)
def isRow (n : Nat) : PV → Bool
  | .tup xs => decide (xs.length = n) && xs.all isFate
  | _ => false
theorem fn_is_row (S : Stt) (p : PV) (n : Nat) (h : thb p = true) : Fn (den_is_row [.int n, p] S) (fun q s => s = S ∧ q = .bl (isRow n p)) noR := by
  have h' := thb_th h
  unfold den_is_row
  with_reducible refine fn_run ?_ ?_
  exact rfl
  unfold body_is_row
  rcases h' with ⟨m, rfl⟩ | ⟨b, rfl⟩ | rfl | ⟨x, rfl⟩ | ⟨xs, rfl⟩
  · walk_at "fss"
    exact ⟨rfl, rfl⟩
  · walk_at "fss"
    exact ⟨rfl, rfl⟩
  · walk_at "fss"
    exact ⟨rfl, rfl⟩
  · walk_at "fss"
    exact ⟨rfl, rfl⟩
  · walk_at "fss"
    · rename_i hl
      refine ⟨rfl, congrArg PV.bl ?_⟩
      show false = (decide (xs.length = n) && xs.all isFate)
      rw [decide_eq_false (by omega)]
      rfl
    · rename_i hl
      have hl2 : xs.length = n := by omega
      with_reducible refine wp_for ?_
      walk_at "fss"
      refine ⟨fun i e s => s = S ∧ (xs.take i).all isFate = true ∧ ∃ x, e = [.val (.int n), .val (.tup xs), x], ⟨rfl, rfl, _, rfl⟩, fun i t e s hi ⟨e1, h1, x, e2⟩ => ?_, fun e s ⟨e1, h1, x, e2⟩ => ?_⟩
      · subst e1 e2
        walk_at "fss"
        refine no_implicit_lambda% (Fn.mono (fn_is_fate s t (thbs_mem h (List.mem_of_getElem? hi))) (fun q s' ⟨e1, e2⟩ => ?_) fun _ _ _ h => h.elim)
        subst e1 e2
        cases hc : isFate t
        · walk_at "fss"
          refine ⟨rfl, congrArg PV.bl ?_⟩
          show false = (decide (xs.length = n) && xs.all isFate)
          rw [all_no hi hc, Bool.and_false]
        · walk_at "fss"
          exact ⟨rfl, all_take hi h1 hc, _, rfl⟩
      · subst e1 e2
        rw [List.take_of_length_le (Nat.le_refl _)] at h1
        walk_at "fss"
        refine ⟨rfl, congrArg PV.bl ?_⟩
        show true = (decide (xs.length = n) && xs.all isFate)
        rw [h1, decide_eq_true hl2]
        rfl
theorem isFate_inv {p : PV} (h : isFate p = true) : ∃ a b, p = .tup [a, b] ∧ isBound a = true ∧ isBound b = true := by
  cases p with
  | tup xs =>
    rcases xs with _ | ⟨a, _ | ⟨b, _ | ⟨c, r⟩⟩⟩
    · cases h
    · cases h
    · simp only [isFate, Bool.and_eq_true] at h
      exact ⟨a, b, rfl, h.1, h.2⟩
    · cases h
  | _ => cases h
/-! tuples of one item for each shelf -/
def bad (n : Nat) (ok : PV → Bool) (p : PV) (w : Int) : Prop := (w = -1 ∧ ∀ xs, p = .tup xs → xs.length ≠ n) ∨ ∃ (xs : List PV) (i : Nat), p = .tup xs ∧ xs.length = n ∧ w = i ∧ (xs.take i).all ok = true ∧ ∃ a, xs[i]? = some a ∧ ok a = false
theorem fn_shelves (S : Stt) (p k : Int) (xs : List Int) (hg : Gnd p k xs) : Fn (den_shelves [gv p k xs] S) (fun q s => s = S ∧ q = .int xs.length) noR := by
  have hl := ints_len xs
  unfold den_shelves
  with_reducible refine fn_run ?_ ?_
  exact rfl
  unfold body_shelves
  walk_at "fss"
  refine no_implicit_lambda% (Fn.mono (fn_made_ground S p k xs hg) (fun q s ⟨e1, e2⟩ => ?_) fun _ _ _ h => h.elim)
  subst e1 e2
  walk_at "fss"
  rw [hl]
  exact ⟨rfl, rfl⟩
theorem x_addT {s : Stt} {xs ys : List PV} {Q : PV → Prop} (h : xs.length + ys.length ≤ sizeLine) (hq : Q (.tup (xs ++ ys))) : ∃ w, pAdd s (.tup xs) (.tup ys) = some w ∧ Q w := ⟨_, by
  show (if xs.length + ys.length ≤ sizeLine then some (PV.tup (xs ++ ys)) else none) = _
  rw [if_pos h], hq⟩
theorem small2 {a b : Nat} (h : a + b < 100000) : a + b ≤ sizeLine := Nat.le_of_lt (small_line h)
theorem eqv_nil {a : PV} {r : List PV} : eqv (.tup (a :: r)) (.tup []) = false := by
  show PyData.eqv (.tuple (a.toD :: toDs r)) (.tuple []) = false
  simp [PyData.eqv, PyData.eqvAll]
theorem fn_made_book (S : Stt) (n : Nat) (rs : List PV) (h1 : 1 ≤ n) (h2 : n ≤ 8) (hr : thbs rs = true) (hk : okd 60 (.tup rs) = true) (hne : rs ≠ []) (hl : rs.length ≤ 24) : Fn (den_made_book [.int n, .tup rs] S) (fun q s => s = S ∧ q = .tup rs ∧ rs.all (isRow n) = true)
    (fun c w s => s = S ∧ c = "BadBook" ∧ ∃ (i : Nat) (a : PV), w = .int i ∧ rs[i]? = some a ∧ isRow n a = false ∧ (rs.take i).all (isRow n) = true) := by
  unfold den_made_book
  with_reducible refine fn_run ?_ ?_
  exact rfl
  unfold body_made_book
  walk_at "fss"
  refine no_implicit_lambda% (Fn.mono (show Fn (den_is_below [.int n, .int (8 + 1)] S) _ _ from fn_is_below S (.int n) 9 rfl) (fun q s' ⟨e1, e2⟩ => ?_) fun _ _ _ h => h.elim)
  subst e1 e2
  rw [show isBelow 9 (.int n) = true by simp [isBelow]; omega]
  walk_at "fss"
  · rename_i h
    omega
  · obtain ⟨a, r, e⟩ : ∃ a r, rs = a :: r := by
      cases rs with
      | nil => exact absurd rfl hne
      | cons a r => exact ⟨a, r, rfl⟩
    refine ⟨_, show pEq s' (.tup rs) (.tup []) = some (.bl false) from pEq_v hk rfl rfl rfl (by rw [e]; exact eqv_nil), ?_⟩
    walk_at "fss"
    · rename_i hg
      omega
    · with_reducible refine wp_for ?_
      walk_at "fss"
      refine x_enum rfl ?_
      refine ⟨fun i e s => s = s' ∧ (rs.take i).all (isRow n) = true ∧ ∃ x y, e = [.val (.int n), .val (.tup rs), x, y], ⟨rfl, rfl, _, _, rfl⟩, fun i t e s hi ⟨e1, h1, x, y, e2⟩ => ?_, fun e s ⟨e1, h1, x, y, e2⟩ => ?_⟩
      · obtain ⟨u, hu, rfl⟩ := enumL_get hi
        subst e1 e2
        walk_at "fss"
        refine no_implicit_lambda% (Fn.mono (fn_is_row s u n (thbs_mem hr (List.mem_of_getElem? hu))) (fun q s' ⟨e1, e2⟩ => ?_) fun _ _ _ h => h.elim)
        subst e1 e2
        cases hc : isRow n u
        · walk_at "fss"
          exact ⟨rfl, rfl, i, u, rfl, hu, hc, h1⟩
        · walk_at "fss"
          exact ⟨rfl, all_take hu h1 hc, _, _, rfl⟩
      · subst e1 e2
        have e5 : (enumL rs).length = rs.length := by simp [enumL]
        rw [e5, List.take_of_length_le (Nat.le_refl _)] at h1
        walk_at "fss"
        exact ⟨rfl, rfl, h1⟩
theorem fn_check_told (S : Stt) (b : Bool) : Fn (den_check_told [.bl b] S) (fun q s => s = S) noR := by
  unfold den_check_told
  with_reducible refine fn_run ?_ ?_
  exact rfl
  unfold body_check_told
  walk_at "fss"
  exact rfl
abbrev Ft := Option Nat × Option Nat
def bdP : Option Nat → PV
  | none => .non
  | some n => .int n
def ftP (f : Ft) : PV := .tup [bdP f.1, bdP f.2]
def rwP (r : List Ft) : PV := .tup (r.map ftP)
def gtB : Option Nat → Option Nat → Option Nat
  | some a, some b => some (max a b)
  | _, _ => none
def lsB : Option Nat → Option Nat → Option Nat
  | none, b => b
  | a, none => a
  | some a, some b => some (min a b)
def msB (f g : Ft) (t : Bool) : Option Nat := if t then lsB f.1 g.1 else f.1
theorem fn_greater (S : Stt) (a b : Option Nat) : Fn (den_greater [bdP a, bdP b] S) (fun q s => s = S ∧ q = bdP (gtB a b)) noR := by
  unfold den_greater
  with_reducible refine fn_run ?_ ?_
  exact rfl
  unfold body_greater
  rcases a with _ | a <;> rcases b with _ | b <;> simp only [bdP, gtB]
  · walk_at "fss"
    refine ⟨_, rfl, ?_⟩
    walk_at "fss"
    exact ⟨rfl, rfl⟩
  · walk_at "fss"
    refine ⟨_, rfl, ?_⟩
    walk_at "fss"
    exact ⟨rfl, rfl⟩
  · walk_at "fss"
    refine ⟨_, rfl, ?_⟩
    walk_at "fss"
    refine ⟨_, rfl, ?_⟩
    walk_at "fss"
    exact ⟨rfl, rfl⟩
  · walk_at "fss"
    refine ⟨_, rfl, ?_⟩
    walk_at "fss"
    refine ⟨_, rfl, ?_⟩
    walk_at "fss"
    refine ⟨rfl, congrArg PV.int ?_⟩
    split <;> omega
theorem fn_lesser (S : Stt) (a b : Option Nat) : Fn (den_lesser [bdP a, bdP b] S) (fun q s => s = S ∧ q = bdP (lsB a b)) noR := by
  unfold den_lesser
  with_reducible refine fn_run ?_ ?_
  exact rfl
  unfold body_lesser
  rcases a with _ | a <;> rcases b with _ | b <;> simp only [bdP, lsB]
  · walk_at "fss"
    refine ⟨_, rfl, ?_⟩
    walk_at "fss"
    refine ⟨_, rfl, ?_⟩
    walk_at "fss"
    exact ⟨rfl, rfl⟩
  · walk_at "fss"
    refine ⟨_, rfl, ?_⟩
    walk_at "fss"
    refine ⟨_, rfl, ?_⟩
    walk_at "fss"
    exact ⟨rfl, rfl⟩
  · walk_at "fss"
    refine ⟨_, rfl, ?_⟩
    walk_at "fss"
    refine ⟨_, rfl, ?_⟩
    walk_at "fss"
    refine ⟨_, rfl, ?_⟩
    walk_at "fss"
    exact ⟨rfl, rfl⟩
  · walk_at "fss"
    refine ⟨_, rfl, ?_⟩
    walk_at "fss"
    refine ⟨_, rfl, ?_⟩
    walk_at "fss"
    refine ⟨rfl, congrArg PV.int ?_⟩
    split <;> omega
theorem fn_missing (S : Stt) (f g : Ft) (t : Bool) : Fn (den_missing [ftP f, ftP g, .bl t] S) (fun q s => s = S ∧ q = bdP (msB f g t)) noR := by
  unfold den_missing
  with_reducible refine fn_run ?_ ?_
  exact rfl
  unfold body_missing
  unfold ftP msB
  cases t
  · walk_at "fss"
    exact ⟨rfl, rfl⟩
  · walk_at "fss"
    exact Fn.mono (fn_lesser S f.1 g.1) (fun q s h => h) fun _ _ _ h => h.elim
theorem getD_some {α : Type} {xs : List α} {i : Nat} {a d : α} (h : xs[i]? = some a) : xs.getD i d = a := by
  rw [List.getD_eq_getElem?_getD, h]
  rfl
theorem map_at {α : Type} {xs : List α} {i : Nat} {d : α} (f : α → PV) (h : i < xs.length) : atI (xs.map f) (i : Int) = some (f (xs.getD i d)) := by
  refine atI_nat ?_
  rw [List.getElem?_map, List.getElem?_eq_getElem h, List.getD_eq_getElem?_getD, List.getElem?_eq_getElem h]
  rfl
theorem map_get {α : Type} {xs : List α} {i : Nat} {d : α} {f : α → PV} {p : PV} (h : (xs.map f)[i]? = some p) : i < xs.length ∧ p = f (xs.getD i d) := by
  rw [List.getElem?_map] at h
  cases q : xs[i]? with
  | none => rw [q] at h; cases h
  | some a =>
    rw [q] at h
    exact ⟨(List.getElem?_eq_some_iff.mp q).1, by rw [getD_some q]; exact (Option.some.inj h).symm⟩
def bkP (bk : List (List Ft)) : PV := .tup (bk.map rwP)
def okB (n : Nat) (bk : List (List Ft)) : Prop := bk ≠ [] ∧ bk.length ≤ 24 ∧ ∀ r ∈ bk, r.length = n ∧ ∀ f ∈ r, (∀ u, f.1 = some u → u ≤ 64) ∧ (∀ v, f.2 = some v → v ≤ 64)
theorem bd_thb (a : Option Nat) : thb (bdP a) = true := by cases a <;> rfl
theorem ft_thb (f : Ft) : thb (ftP f) = true := thbs_of fun x hx => by
  simp only [List.mem_cons, List.not_mem_nil, or_false] at hx
  rcases hx with rfl | rfl <;> exact bd_thb _
theorem rw_thb (r : List Ft) : thb (rwP r) = true := thbs_of fun x hx => by
  obtain ⟨f, _, rfl⟩ := List.mem_map.mp hx
  exact ft_thb f
theorem rws_thb (bk : List (List Ft)) : thbs (bk.map rwP) = true := thbs_of fun x hx => by
  obtain ⟨f, _, rfl⟩ := List.mem_map.mp hx
  exact rw_thb f
theorem bd_okd (k : Nat) (a : Option Nat) : okd (k + 1) (bdP a) = true := by cases a <;> rfl
theorem ft_okd (k : Nat) (f : Ft) : okd (k + 2) (ftP f) = true := okd_tup fun x hx => by
  simp only [List.mem_cons, List.not_mem_nil, or_false] at hx
  rcases hx with rfl | rfl <;> exact bd_okd _ _
theorem rw_okd (k : Nat) (r : List Ft) : okd (k + 3) (rwP r) = true := okd_tup fun x hx => by
  obtain ⟨f, _, rfl⟩ := List.mem_map.mp hx
  exact ft_okd k f
theorem rws_okd (k : Nat) (bk : List (List Ft)) : okd (k + 4) (bkP bk) = true := okd_tup fun x hx => by
  obtain ⟨f, _, rfl⟩ := List.mem_map.mp hx
  exact rw_okd k f
theorem bd_is {a : Option Nat} (h : ∀ u, a = some u → u ≤ 64) : isBound (bdP a) = true := by
  cases a with
  | none => rfl
  | some u =>
    have := h u rfl
    show isBound (.int (u : Nat)) = true
    simp [isBound, isBelow]
    omega
theorem rw_is {n : Nat} {r : List Ft} (h : r.length = n ∧ ∀ f ∈ r, (∀ u, f.1 = some u → u ≤ 64) ∧ (∀ v, f.2 = some v → v ≤ 64)) : isRow n (rwP r) = true := by
  show (decide ((r.map ftP).length = n) && (r.map ftP).all isFate) = true
  rw [List.length_map, decide_eq_true h.1, Bool.true_and]
  refine List.all_eq_true.mpr fun x hx => ?_
  obtain ⟨f, hf, rfl⟩ := List.mem_map.mp hx
  show (isBound (bdP f.1) && isBound (bdP f.2)) = true
  rw [bd_is (h.2 f hf).1, bd_is (h.2 f hf).2]
  rfl
theorem rws_is {n : Nat} {bk : List (List Ft)} (h : okB n bk) : (bk.map rwP).all (isRow n) = true := List.all_eq_true.mpr fun x hx => by
  obtain ⟨r, hr, rfl⟩ := List.mem_map.mp hx
  exact rw_is (h.2.2 r hr)
theorem ints_thb (t : List Int) : thb (tupI t) = true := thbs_of fun x hx => by
  obtain ⟨f, _, rfl⟩ := List.mem_map.mp hx
  rfl
end
end I
end FS
set_option Elab.async false
set_option linter.all false
set_option pp.maxSteps 700
set_option maxRecDepth 100000
set_option maxHeartbeats 8000000
namespace FS
open PySem L2
namespace I
section
local macro_rules | `(tactic| walk_at "okm") => `(tactic| first | (exact okMul_l (by omega)) | (exact okMul_r (by omega)) | decide)
local macro_rules | `(tactic| walk_at "fsW") => `(tactic| first
  | (with_reducible refine wp_useL ?_)
  | (with_reducible refine wp_lenL ?_)
  | (with_reducible refine wp_ixL ?_)
  | (with_reducible refine wp_mthL ?_)
  | ((with_reducible refine wp_gtupC ?_ ?_); exact rfl)
  | ((with_reducible refine wp_gtupZ ?_ ?_); exact rfl))
local macro_rules | `(tactic| walk_at "fsE") => `(tactic| first
  | ((with_reducible show ∃ ys, _ = some (Slot.own ys) ∧ _); refine x_own1 rfl ?_)
  | ((with_reducible refine x_mul ?_ ?_); (walk_at "okm"))
  | ((with_reducible refine x_div ?_ ?_ ?_); omega; omega)
  | ((with_reducible refine x_mod ?_ ?_); omega)
  | ((with_reducible refine x_pow ?_ ?_); decide)
  | ((with_reducible show ∃ k, _ = some (PV.bl k) ∧ _); refine x_chain rfl ?_)
  | ((with_reducible show ∃ n ys, _ = PV.ref n ∧ _ = some (SO.lst ys) ∧ _); refine x_mR rfl rfl ?_)
  | ((with_reducible show ∃ w, pIx _ _ _ = some w ∧ _); refine x_ix rfl ?_)
  | ((with_reducible show ∃ w, fLen _ _ = some w ∧ _); refine x_len rfl ?_)
  | ((with_reducible show ∃ w, fInt _ _ = some w ∧ _); refine x_int rfl ?_)
  | ((with_reducible refine x_isi (w := .bl true) ?_ ?_); exact rfl)
  | ((with_reducible refine x_isi (w := .bl false) ?_ ?_); exact rfl)
  | ((with_reducible show ∃ w, fTuple _ _ = some w ∧ _); refine x_tupf rfl ?_)
  | ((with_reducible show ∃ w, fMin _ _ = some w ∧ _); refine x_minf rfl ?_)
  | ((with_reducible show ∃ w, fMax _ _ = some w ∧ _); refine x_maxf rfl ?_)
  | ((with_reducible show ∃ w, pCut _ _ _ _ = some w ∧ _); refine x_pcut rfl ?_)
  | ((with_reducible show ∃ w, itemsOf _ _ = some w ∧ _); refine x_itm rfl ?_)
  | ((with_reducible show ∃ w, itemsF _ = some w ∧ _); refine x_itF rfl ?_)
  | ((with_reducible show ∃ i, _ = PV.int i ∧ _); refine x_part rfl ?_)
  | ((with_reducible show ∃ p q, _ = [p, q] ∧ _); refine x_par rfl ?_)
  | ((with_reducible show ∃ n xs j m, _ = PV.ref n ∧ _ = PV.int j ∧ _ ∧ _ ∧ _); refine x_setR rfl rfl rfl rfl ?_))
local macro_rules | `(tactic| walk_at "fsR") => `(tactic| first
  | ((with_reducible show Wp _ _ _); (walk_at "fsW"))
  | ((with_reducible show Exists _); (walk_at "fsE"))
  | ((with_reducible show LkS _ _ _); first | refine lks_v rfl ?_ | refine lks_o rfl ?_)
  | ((with_reducible show _ ≤ sizeLine ∧ _); refine x_low rfl ?_)
  | ((with_reducible show List.length _ = _ ∧ _); refine x_num rfl ?_))
local macro_rules | `(tactic| walk_at "fs1") => `(tactic| first | (with_reducible refine run1 ?_) | (walk_at "fsR"))
local macro_rules | `(tactic| walk_at "fs0") => `(tactic| first | (with_reducible refine stp1 ?_) | (walk_at "fsR"))
local macro_rules | `(tactic| walk_at "fs") => `(tactic| repeat (walk_at "fs1"))
local macro_rules | `(tactic| walk_at "fsp") => `(tactic| (with_reducible refine x_spl ?_ ?_) <;> (intro h; first | (simp only [Bool.not_true, Bool.not_false, reduceCtorEq, decide_eq_true_eq, decide_eq_false_iff_not, Bool.not_eq_true', Bool.not_eq_false', Bool.and_eq_true, Int.not_lt, Int.not_le, Bool.or_eq_true, Bool.and_eq_false_iff, Bool.or_eq_false_iff, Bool.false_and, Bool.true_and, Bool.or_false, Bool.false_or, beq_self_eq_true, Bool.true_or, List.isEmpty_nil, List.isEmpty_cons] at h) | skip))
local macro_rules | `(tactic| walk_at "fss") => `(tactic| repeat' (first | (walk_at "fs1") | (walk_at "fsp")))
/-! ### what is a ground, a book, a charter -/
theorem okd_next : ∀ (k : Nat) (p : PV), okd k p = true → okd (k + 1) p = true := fun k => by
  induction k with
  | zero => exact fun p h => by cases p <;> first | rfl | exact h | (cases h)
  | succ k ih =>
    intro p h
    cases p with
    | tup xs => exact List.all_eq_true.mpr fun x hx => ih x (List.all_eq_true.mp h x hx)
    | tuz xs => exact List.all_eq_true.mpr fun x hx => ih x (List.all_eq_true.mp h x hx)
    | lst xs => exact List.all_eq_true.mpr fun x hx => ih x (List.all_eq_true.mp h x hx)
    | non => rfl
    | bl _ => rfl
    | int _ => rfl
    | str _ => exact h
    | scr _ => rfl
    | ref _ => cases h
    | raw _ => cases h
theorem okd_up {k m : Nat} {p : PV} (hkm : k ≤ m) (h : okd k p = true) : okd m p = true := by
  obtain ⟨d, rfl⟩ := Nat.le.dest hkm
  induction d with
  | zero => exact h
  | succ d ih => exact okd_next _ _ (ih (by omega))
def unI : PV → Int
  | .int n => n
  | _ => 0
def isPts (p : Int) : PV → Bool
  | .tup xs => decide (1 ≤ xs.length ∧ xs.length ≤ 8) && (xs.all (isW 0 p) && decide (xs.map unI).Nodup)
  | _ => false
theorem isW_int {a b : Int} {p : PV} (h : isW a b p = true) : ∃ n : Int, p = .int n ∧ a ≤ n ∧ n ≤ b := by
  cases p with
  | int n =>
    simp only [isW, Bool.and_eq_true, decide_eq_true_eq] at h
    exact ⟨n, rfl, h.1, h.2⟩
  | _ => cases h
theorem ints_W {p : Int} {xs : List PV} (h : xs.all (isW 0 p) = true) : xs = iL (xs.map unI) := by
  unfold iL
  rw [List.map_map]
  refine (List.map_id xs).symm.trans (List.map_congr_left fun x hx => ?_)
  obtain ⟨n, rfl, _⟩ := isW_int (List.all_eq_true.mp h x hx)
  rfl
theorem fn_are_points_any (S : Stt) (p : Int) (t : PV) (ht : thb t = true) : Fn (den_are_points [.int p, t] S) (fun q s => s = S ∧ q = .bl (isPts p t)) noR := by
  have h' := thb_th ht
  unfold den_are_points
  with_reducible refine fn_run ?_ ?_
  exact rfl
  unfold body_are_points
  rcases h' with ⟨n, rfl⟩ | ⟨b, rfl⟩ | rfl | ⟨x, rfl⟩ | ⟨xs, rfl⟩
  · walk_at "fss"
    exact ⟨rfl, rfl⟩
  · walk_at "fss"
    exact ⟨rfl, rfl⟩
  · walk_at "fss"
    exact ⟨rfl, rfl⟩
  · walk_at "fss"
    exact ⟨rfl, rfl⟩
  · walk_at "fss"
    · refine ⟨rfl, congrArg PV.bl ?_⟩
      show false = (decide (1 ≤ xs.length ∧ xs.length ≤ 8) && (xs.all (isW 0 p) && decide (xs.map unI).Nodup))
      rw [decide_eq_false (by omega), Bool.false_and]
    rotate_left
    · refine ⟨rfl, congrArg PV.bl ?_⟩
      show false = (decide (1 ≤ xs.length ∧ xs.length ≤ 8) && (xs.all (isW 0 p) && decide (xs.map unI).Nodup))
      rw [decide_eq_false (by omega), Bool.false_and]
    · have h1 : 1 ≤ xs.length ∧ xs.length ≤ 8 := by omega
      with_reducible refine wp_for ?_
      walk_at "fss"
      refine x_rng1 (by omega) (by omega) ?_
      rw [Int.toNat_natCast]
      refine ⟨fun i e s => s = S ∧ ((xs.take i).all (isW 0 p) = true ∧ ((xs.take i).map unI).Nodup) ∧ ∃ x, e = [.val (.int p), .val (.tup xs), x], ⟨rfl, ⟨rfl, List.nodup_nil⟩, _, rfl⟩, fun i t e s hi ⟨e1, ⟨q1, q2⟩, x, e2⟩ => ?_, fun e s ⟨e1, ⟨q1, q2⟩, x, e2⟩ => ?_⟩
      · obtain ⟨hj, rfl⟩ := rng_get _ _ _ _ hi
        subst e1 e2
        have hx : xs[i]? = some xs[i] := List.getElem?_eq_getElem hj
        generalize xs[i] = y at hx
        walk_at "fss"
        refine x_ix (atI_nat hx) ?_
        walk_at "fss"
        refine no_implicit_lambda% (Fn.mono (fn_is_whole s y 0 p (thb_th (thbs_mem ht (List.mem_of_getElem? hx)))) (fun q s' ⟨e1, e2⟩ => ?_) fun _ _ _ h => h.elim)
        subst e1 e2
        cases hc : isW 0 p y
        · walk_at "fss"
          refine ⟨rfl, congrArg PV.bl ?_⟩
          show false = (decide (1 ≤ xs.length ∧ xs.length ≤ 8) && (xs.all (isW 0 p) && decide (xs.map unI).Nodup))
          rw [all_no hx hc, Bool.false_and, Bool.and_false]
        · obtain ⟨n, rfl, _⟩ := isW_int hc
          walk_at "fss"
          refine x_ix (atI_nat hx) ?_
          walk_at "fss"
          rw [cut_to, ints_W q1]
          refine ⟨_, in_ints _ _ _, ?_⟩
          have hn1 : (xs.take (i + 1)).map unI = (xs.take i).map unI ++ [n] := by
            rw [take_next hx, List.map_append]
            rfl
          walk_at "fss"
          · rename_i hm
            refine ⟨rfl, congrArg PV.bl ?_⟩
            show false = (decide (1 ≤ xs.length ∧ xs.length ≤ 8) && (xs.all (isW 0 p) && decide (xs.map unI).Nodup))
            have hnn : ¬ (xs.map unI).Nodup := fun hnd => by
              have h3 : ((xs.take (i + 1)).map unI).Nodup := by
                rw [List.map_take]
                exact hnd.sublist (List.take_sublist _ _)
              rw [hn1, List.nodup_append] at h3
              exact h3.2.2 n hm n (by simp) rfl
            rw [decide_eq_false hnn, Bool.and_false, Bool.and_false]
          · rename_i hm
            refine ⟨rfl, ⟨all_take hx q1 hc, ?_⟩, _, rfl⟩
            rw [hn1, List.nodup_append]
            exact ⟨q2, by simp, fun a ha b hb e => by
              rw [List.mem_singleton] at hb
              subst hb e
              exact hm ha⟩
      · subst e1 e2
        rw [List.length_map, List.length_range, List.take_of_length_le (Nat.le_refl _)] at q1 q2
        walk_at "fss"
        refine ⟨rfl, congrArg PV.bl ?_⟩
        show true = (decide (1 ≤ xs.length ∧ xs.length ≤ 8) && (xs.all (isW 0 p) && decide (xs.map unI).Nodup))
        rw [decide_eq_true h1, q1, decide_eq_true q2]
        rfl
/-- the refusal of a ground -/
noncomputable def gdE : PV → Option Int
  | .tup [a, b, c] => if isP a = false then some 0 else if isW 1 12 b = false then some 1 else if isPts (unI a) c = false then some 2 else none
  | _ => some (-1)
theorem gdE_eq (a b c : PV) : gdE (.tup [a, b, c]) = if isP a = false then some 0 else if isW 1 12 b = false then some 1 else if isPts (unI a) c = false then some 2 else none := rfl
theorem gdE_short {xs : List PV} (h : xs.length ≠ 3) : gdE (.tup xs) = some (-1) := by
  rcases xs with _ | ⟨a, _ | ⟨b, _ | ⟨c, _ | ⟨d, r⟩⟩⟩⟩
  · rfl
  · rfl
  · rfl
  · exact absurd rfl h
  · rfl
theorem fn_made_ground_any (S : Stt) (t : PV) (ht : thb t = true) : Fn (den_made_ground [t] S) (fun q s => s = S ∧ q = t ∧ gdE t = none) (fun c w s => s = S ∧ c = "BadGround" ∧ ∃ i, w = .int i ∧ gdE t = some i) := by
  have h' := thb_th ht
  unfold den_made_ground
  with_reducible refine fn_run ?_ ?_
  exact rfl
  unfold body_made_ground
  rcases h' with ⟨n, rfl⟩ | ⟨b, rfl⟩ | rfl | ⟨x, rfl⟩ | ⟨xs, rfl⟩
  · walk_at "fss"
    exact ⟨rfl, rfl, _, rfl, rfl⟩
  · walk_at "fss"
    exact ⟨rfl, rfl, _, rfl, rfl⟩
  · walk_at "fss"
    exact ⟨rfl, rfl, _, rfl, rfl⟩
  · walk_at "fss"
    exact ⟨rfl, rfl, _, rfl, rfl⟩
  · walk_at "fss"
    · rename_i hl
      exact ⟨rfl, rfl, _, rfl, gdE_short fun h => hl (by rw [h]; rfl)⟩
    · rename_i hl
      obtain ⟨a, b, c, rfl⟩ : ∃ a b c, xs = [a, b, c] := by
        rcases xs with _ | ⟨a, _ | ⟨b, _ | ⟨c, _ | ⟨d, r⟩⟩⟩⟩
        · cases hl
        · cases hl
        · cases hl
        · exact ⟨a, b, c, rfl⟩
        · exact absurd hl (by simp only [List.length_cons]; omega)
      have ha : thb a = true := thbs_mem ht (by simp)
      have hb : thb b = true := thbs_mem ht (by simp)
      have hc : thb c = true := thbs_mem ht (by simp)
      walk_at "fss"
      refine no_implicit_lambda% (Fn.mono (fn_is_prime S a (thb_th ha)) (fun q s' ⟨e1, e2⟩ => ?_) fun _ _ _ h => h.elim)
      subst e1 e2
      cases h1 : isP a
      · walk_at "fss"
        exact ⟨rfl, rfl, _, rfl, by rw [gdE_eq, if_pos h1]⟩
      · obtain ⟨p, rfl⟩ : ∃ p, a = .int p := by
          cases a with
          | int p => exact ⟨p, rfl⟩
          | _ => cases h1
        walk_at "fss"
        refine no_implicit_lambda% (Fn.mono (fn_is_whole s' b 1 12 (thb_th hb)) (fun q s ⟨e1, e2⟩ => ?_) fun _ _ _ h => h.elim)
        subst e1 e2
        cases h2 : isW 1 12 b
        · walk_at "fss"
          exact ⟨rfl, rfl, _, rfl, by rw [gdE_eq, if_neg (by rw [h1]; decide), if_pos h2]⟩
        · walk_at "fss"
          refine no_implicit_lambda% (Fn.mono (fn_are_points_any s p c hc) (fun q s' ⟨e1, e2⟩ => ?_) fun _ _ _ h => h.elim)
          subst e1 e2
          cases h3 : isPts p c
          · walk_at "fss"
            exact ⟨rfl, rfl, _, rfl, by rw [gdE_eq, if_neg (by rw [h1]; decide), if_neg (by rw [h2]; decide), show unI (PV.int p) = p from rfl, if_pos h3]⟩
          · walk_at "fss"
            exact ⟨rfl, rfl, by rw [gdE_eq, if_neg (by rw [h1]; decide), if_neg (by rw [h2]; decide), if_neg (by show ¬ isPts p c = false; rw [h3]; decide)]⟩
theorem gdE_gnd {p k : Int} {xs : List Int} (hg : Gnd p k xs) : gdE (gv p k xs) = none := by
  have h1 : isP (.int p) = true := by simp [isP, hg.pr]
  have h2 : isW 1 12 (.int k) = true := by simp [isW, hg.k1, hg.k2]
  have h4 : (iL xs).map unI = xs := by
    unfold iL
    rw [List.map_map]
    exact List.map_id xs
  have h3 : isPts p (tupI xs) = true := by
    show (decide (1 ≤ (iL xs).length ∧ (iL xs).length ≤ 8) && ((iL xs).all (isW 0 p) && decide ((iL xs).map unI).Nodup)) = true
    rw [h4, ints_len, decide_eq_true ⟨hg.n1, hg.n2⟩, decide_eq_true hg.nd, Bool.true_and, Bool.and_true]
    refine List.all_eq_true.mpr fun x hx => ?_
    obtain ⟨y, hy, rfl⟩ := List.mem_map.mp hx
    have := hg.rg y hy
    simp [isW, this]
  rw [gdE_eq, if_neg (by rw [h1]; decide), if_neg (by rw [h2]; decide), if_neg (by show ¬ isPts p (tupI xs) = false; rw [h3]; decide)]
theorem gdE_none {t : PV} (h : gdE t = none) : ∃ p k xs, t = gv p k xs ∧ Gnd p k xs := by
  unfold gdE at h
  split at h
  · rename_i a b c
    split at h
    · cases h
    · rename_i h1
      split at h
      · cases h
      · rename_i h2
        split at h
        · cases h
        · rename_i h3
          have h1 : isP a = true := by simpa using h1
          have h2 : isW 1 12 b = true := by simpa using h2
          have h3 : isPts (unI a) c = true := by simpa using h3
          obtain ⟨p, rfl⟩ : ∃ p, a = .int p := by
            cases a with
            | int p => exact ⟨p, rfl⟩
            | _ => cases h1
          obtain ⟨k, rfl, k1, k2⟩ := isW_int h2
          obtain ⟨ys, rfl⟩ : ∃ ys, c = .tup ys := by
            cases c with
            | tup ys => exact ⟨ys, rfl⟩
            | _ => cases h3
          have h3 : (decide (1 ≤ ys.length ∧ ys.length ≤ 8) && (ys.all (isW 0 p) && decide (ys.map unI).Nodup)) = true := h3
          rw [Bool.and_eq_true, Bool.and_eq_true, decide_eq_true_eq, decide_eq_true_eq] at h3
          obtain ⟨⟨l1, l2⟩, h4, h5⟩ := h3
          have e := ints_W h4
          refine ⟨p, k, ys.map unI, by show PV.tup [.int p, .int k, .tup ys] = PV.tup [.int p, .int k, .tup (iL (ys.map unI))]; rw [← e], ⟨?_, k1, k2, by rw [List.length_map]; exact l1, by rw [List.length_map]; exact l2, fun x hx => ?_, h5⟩⟩
          · simpa [isP] using h1
          · obtain ⟨y, hy, rfl⟩ := List.mem_map.mp hx
            obtain ⟨n, rfl, n0, n1⟩ := isW_int (List.all_eq_true.mp h4 y hy)
            exact ⟨n0, n1⟩
  · cases h
end
end I
end FS
set_option Elab.async false
set_option linter.all false
set_option pp.maxSteps 700
set_option maxRecDepth 100000
set_option maxHeartbeats 8000000
namespace FS
open PySem L2
namespace I
section
local macro_rules | `(tactic| walk_at "okm") => `(tactic| first | (exact okMul_l (by omega)) | (exact okMul_r (by omega)) | decide)
local macro_rules | `(tactic| walk_at "fsW") => `(tactic| first
  | (with_reducible refine wp_useL ?_)
  | (with_reducible refine wp_lenL ?_)
  | (with_reducible refine wp_ixL ?_)
  | (with_reducible refine wp_mthL ?_)
  | ((with_reducible refine wp_gtupC ?_ ?_); exact rfl)
  | ((with_reducible refine wp_gtupZ ?_ ?_); exact rfl))
local macro_rules | `(tactic| walk_at "fsE") => `(tactic| first
  | ((with_reducible show ∃ ys, _ = some (Slot.own ys) ∧ _); refine x_own1 rfl ?_)
  | ((with_reducible refine x_mul ?_ ?_); (walk_at "okm"))
  | ((with_reducible refine x_div ?_ ?_ ?_); omega; omega)
  | ((with_reducible refine x_mod ?_ ?_); omega)
  | ((with_reducible refine x_pow ?_ ?_); decide)
  | ((with_reducible show ∃ k, _ = some (PV.bl k) ∧ _); refine x_chain rfl ?_)
  | ((with_reducible show ∃ n ys, _ = PV.ref n ∧ _ = some (SO.lst ys) ∧ _); refine x_mR rfl rfl ?_)
  | ((with_reducible show ∃ w, pIx _ _ _ = some w ∧ _); refine x_ix rfl ?_)
  | ((with_reducible show ∃ w, fLen _ _ = some w ∧ _); refine x_len rfl ?_)
  | ((with_reducible show ∃ w, fInt _ _ = some w ∧ _); refine x_int rfl ?_)
  | ((with_reducible refine x_isi (w := .bl true) ?_ ?_); exact rfl)
  | ((with_reducible refine x_isi (w := .bl false) ?_ ?_); exact rfl)
  | ((with_reducible show ∃ w, fTuple _ _ = some w ∧ _); refine x_tupf rfl ?_)
  | ((with_reducible show ∃ w, fMin _ _ = some w ∧ _); refine x_minf rfl ?_)
  | ((with_reducible show ∃ w, fMax _ _ = some w ∧ _); refine x_maxf rfl ?_)
  | ((with_reducible show ∃ w, pCut _ _ _ _ = some w ∧ _); refine x_pcut rfl ?_)
  | ((with_reducible show ∃ w, itemsOf _ _ = some w ∧ _); refine x_itm rfl ?_)
  | ((with_reducible show ∃ w, itemsF _ = some w ∧ _); refine x_itF rfl ?_)
  | ((with_reducible show ∃ i, _ = PV.int i ∧ _); refine x_part rfl ?_)
  | ((with_reducible show ∃ p q, _ = [p, q] ∧ _); refine x_par rfl ?_)
  | ((with_reducible show ∃ n xs j m, _ = PV.ref n ∧ _ = PV.int j ∧ _ ∧ _ ∧ _); refine x_setR rfl rfl rfl rfl ?_))
local macro_rules | `(tactic| walk_at "fsR") => `(tactic| first
  | ((with_reducible show Wp _ _ _); (walk_at "fsW"))
  | ((with_reducible show Exists _); (walk_at "fsE"))
  | ((with_reducible show LkS _ _ _); first | refine lks_v rfl ?_ | refine lks_o rfl ?_)
  | ((with_reducible show _ ≤ sizeLine ∧ _); refine x_low rfl ?_)
  | ((with_reducible show List.length _ = _ ∧ _); refine x_num rfl ?_))
local macro_rules | `(tactic| walk_at "fs1") => `(tactic| first | (with_reducible refine run1 ?_) | (walk_at "fsR"))
local macro_rules | `(tactic| walk_at "fs0") => `(tactic| first | (with_reducible refine stp1 ?_) | (walk_at "fsR"))
local macro_rules | `(tactic| walk_at "fs") => `(tactic| repeat (walk_at "fs1"))
local macro_rules | `(tactic| walk_at "fsp") => `(tactic| (with_reducible refine x_spl ?_ ?_) <;> (intro h; first | (simp only [Bool.not_true, Bool.not_false, reduceCtorEq, decide_eq_true_eq, decide_eq_false_iff_not, Bool.not_eq_true', Bool.not_eq_false', Bool.and_eq_true, Int.not_lt, Int.not_le, Bool.or_eq_true, Bool.and_eq_false_iff, Bool.or_eq_false_iff, Bool.false_and, Bool.true_and, Bool.or_false, Bool.false_or, beq_self_eq_true, Bool.true_or, List.isEmpty_nil, List.isEmpty_cons] at h) | skip))
local macro_rules | `(tactic| walk_at "fss") => `(tactic| repeat' (first | (walk_at "fs1") | (walk_at "fsp")))
/-! ### what is bearable -/
def brF (f g : Ft) (t : Bool) : Bool := (msB f g t).isSome && (gtB f.2 g.2).isSome
def brP (r o : List Ft) (t : Bool) : Bool := (List.range r.length).any fun i => brF (r.getD i (none, none)) (o.getD i (none, none)) t
def brB (bk : List (List Ft)) (t : Bool) : Bool := bk.all fun r => bk.all fun o => brP r o t
def unB : PV → Option Nat
  | .int n => some n.toNat
  | _ => none
def unF : PV → Ft
  | .tup [a, b] => (unB a, unB b)
  | _ => (none, none)
def unR : PV → List Ft
  | .tup xs => xs.map unF
  | _ => []
theorem unB_bd (a : Option Nat) : unB (bdP a) = a := by cases a <;> rfl
theorem unF_ft (f : Ft) : unF (ftP f) = f := by
  show (unB (bdP f.1), unB (bdP f.2)) = f
  rw [unB_bd, unB_bd]
theorem unR_rw (r : List Ft) : unR (rwP r) = r := by
  show (r.map ftP).map unF = r
  rw [List.map_map]
  exact (List.map_congr_left fun f _ => unF_ft f).trans (List.map_id r)
theorem any_next {n : Nat} {f : Nat → Bool} (h : (List.range n).any f = false) (h2 : f n = false) : (List.range (n + 1)).any f = false := by
  rw [List.range_succ, List.any_append, h]
  simp [h2]
theorem any_at {n m : Nat} {f : Nat → Bool} (h : m < n) (h2 : f m = true) : (List.range n).any f = true := List.any_eq_true.mpr ⟨m, List.mem_range.mpr h, h2⟩
theorem x_isN {s : Stt} {a : Option Nat} {Q : PV → Prop} (h : Q (.bl a.isSome)) : ∃ w, pIsNot s (bdP a) .non = some w ∧ Q w := ⟨_, by cases a <;> rfl, h⟩
theorem fn_is_bearable_pair (S : Stt) (r o : List Ft) (t : Bool) (h : o.length = r.length) (hl : r.length ≤ 24) : Fn (den_is_bearable_pair [rwP r, rwP o, .bl t] S) (fun q s => s = S ∧ q = .bl (brP r o t)) noR := by
  have lr : (r.map ftP).length = r.length := List.length_map ..
  unfold den_is_bearable_pair
  with_reducible refine fn_run ?_ ?_
  exact rfl
  unfold body_is_bearable_pair
  walk_at "fss"
  with_reducible refine wp_for ?_
  walk_at "fss"
  rw [lr]
  refine x_rng1 (by omega) (by omega) ?_
  rw [Int.toNat_natCast]
  refine ⟨fun m e s => s = S ∧ ((List.range m).any fun i => brF (r.getD i (none, none)) (o.getD i (none, none)) t) = false ∧ ∃ x3, e = [.val (rwP r), .val (rwP o), .val (.bl t), x3], ⟨rfl, rfl, _, rfl⟩, fun m q e s hi ⟨e1, h1, x3, e2⟩ => ?_, fun e s ⟨e1, h1, x3, e2⟩ => ?_⟩
  · obtain ⟨hj, rfl⟩ := rng_get _ _ _ _ hi
    subst e1 e2
    unfold rwP
    walk_at "fss"
    refine x_ix (map_at (d := (none, none)) ftP (by omega)) ?_
    walk_at "fss"
    refine x_ix (map_at (d := (none, none)) ftP (by omega)) ?_
    walk_at "fss"
    refine no_implicit_lambda% (Fn.mono (fn_missing s (r.getD m (none, none)) (o.getD m (none, none)) t) (fun q s' ⟨e1, e2⟩ => ?_) fun _ _ _ h => h.elim)
    subst e1 e2
    walk_at "fss"
    refine x_isN ?_
    walk_at "fss"
    · rename_i hb
      refine x_ix (map_at (d := (none, none)) ftP (by omega)) ?_
      walk_at "fss"
      refine x_ix (map_at (d := (none, none)) ftP (by omega)) ?_
      walk_at "fss"
      refine no_implicit_lambda% (Fn.mono (fn_greater s' (r.getD m (none, none)).2 (o.getD m (none, none)).2) (fun q s ⟨e1, e2⟩ => ?_) fun _ _ _ h => h.elim)
      subst e1 e2
      walk_at "fss"
      refine x_isN ?_
      walk_at "fss"
      · rename_i hc
        have h9 : brF (r.getD m (none, none)) (o.getD m (none, none)) t = true := Bool.and_eq_true_iff.mpr ⟨hb, hc⟩
        exact ⟨rfl, congrArg PV.bl (any_at (f := fun i => brF (r.getD i (none, none)) (o.getD i (none, none)) t) hj h9).symm⟩
      · rename_i hc
        exact ⟨rfl, any_next h1 (by unfold brF; rw [hc, Bool.and_false]), _, rfl⟩
    · rename_i hb _
      exact ⟨rfl, any_next h1 (by unfold brF; rw [hb, Bool.false_and]), _, rfl⟩
  · subst e1 e2
    rw [List.length_map, List.length_range] at h1
    walk_at "fss"
    exact ⟨rfl, congrArg PV.bl h1.symm⟩
theorem fn_bearable {p k : Int} {xs : List Int} {bk : List (List Ft)} (hg : Gnd p k xs) (hb : okB xs.length bk) (S : Stt) (t : Bool) : Fn (den_bearable [gv p k xs, bkP bk, .bl t] S) (fun q s => s = S ∧ q = .bl (brB bk t)) noR := by
  have hn2 := hg.n2
  unfold den_bearable
  with_reducible refine fn_run ?_ ?_
  exact rfl
  unfold body_bearable
  walk_at "fss"
  refine no_implicit_lambda% (Fn.mono (fn_made_ground S p k xs hg) (fun q s ⟨e1, e2⟩ => ?_) fun _ _ _ h => h.elim)
  subst e1 e2
  walk_at "fss"
  refine no_implicit_lambda% (Fn.mono (fn_shelves s p k xs hg) (fun q s' ⟨e1, e2⟩ => ?_) fun _ _ _ h => h.elim)
  subst e1 e2
  walk_at "fss"
  refine no_implicit_lambda% (Fn.mono (fn_made_book s' xs.length (bk.map rwP) hg.n1 hg.n2 (rws_thb bk) (rws_okd 56 bk) (fun h => hb.1 (List.map_eq_nil_iff.mp h)) (by rw [List.length_map]; exact hb.2.1)) (fun q s ⟨e1, e2, _⟩ => ?_) fun c v s ⟨_, _, i, a, _, h1, h2, _⟩ => ?_)
  · subst e1 e2
    walk_at "fss"
    refine no_implicit_lambda% (Fn.mono (fn_check_told s t) (fun q s' e1 => ?_) fun _ _ _ h => h.elim)
    subst e1
    walk_at "fss"
    with_reducible refine wp_all2 ?_
    walk_at "fss"
    refine ⟨fun e s => s = s' ∧ ∃ x0 x1, e = [x0, x1, .val (gv p k xs), .val (bkP bk), .val (.bl t)], fun q e s => s = s' ∧ ∃ x1, e = [.val q, x1, .val (gv p k xs), .val (bkP bk), .val (.bl t)], fun _ => bk.map rwP, fun q u => brP (unR q) (unR u) t, ⟨rfl, _, _, rfl⟩, fun q hq e s ⟨e1, x0, x1, e2⟩ => ?_, fun q hq u hu e s ⟨e1, x1, e2⟩ => ?_, fun q hq e s ⟨e1, x1, e2⟩ => ⟨e1, _, _, e2⟩, fun e s ⟨e1, x0, x1, e2⟩ => ?_⟩
    · subst e1 e2
      walk_at "fss"
      exact ⟨rfl, by rw [List.length_map]; have := hb.2.1; omega, rfl, _, rfl⟩
    · obtain ⟨r, hr, rfl⟩ := List.mem_map.mp hq
      obtain ⟨o, ho, rfl⟩ := List.mem_map.mp hu
      have lr := (hb.2.2 r hr).1
      have lo := (hb.2.2 o ho).1
      subst e1 e2
      walk_at "fss"
      refine no_implicit_lambda% (Fn.mono (fn_is_bearable_pair s r o t (by omega) (by omega)) (fun q s' ⟨e1, e2⟩ => ?_) fun _ _ _ h => h.elim)
      subst e1 e2
      exact ⟨congrArg PV.bl (show brP r o t = brP (unR (rwP r)) (unR (rwP o)) t by rw [unR_rw, unR_rw]), rfl, _, rfl⟩
    · subst e1
      refine ⟨rfl, congrArg PV.bl ?_⟩
      unfold brB
      rw [List.all_map]
      refine congrArg (fun f => bk.all f) (funext fun r => ?_)
      show (bk.map rwP).all _ = _
      rw [List.all_map]
      refine congrArg (fun f => bk.all f) (funext fun o => ?_)
      show brP (unR (rwP r)) (unR (rwP o)) t = _
      rw [unR_rw, unR_rw]
  · have := List.all_eq_true.mp (rws_is hb) a (List.mem_of_getElem? h1)
    rw [h2] at this
    cases this
/-! ### books -/
abbrev er (c : Str) (i : Int) : Option (Str × Int) := some (c, i)
def bkE (n : Nat) : PV → Option (Str × Int)
  | .tup rs => if rs.isEmpty then er "BadBook" (-1) else if 24 < rs.length then er "TooMany" (rs.length : Nat) else match rs.findIdx? (fun a => !isRow n a) with
    | some i => er "BadBook" (i : Nat)
    | none => none
  | _ => er "BadBook" (-1)
theorem find_at {f : PV → Bool} : ∀ {rs : List PV} {i : Nat} {a : PV}, rs[i]? = some a → f a = false → (rs.take i).all f = true → rs.findIdx? (fun a => !f a) = some i
  | [], i, a, h, _, _ => by simp at h
  | x :: rs, 0, a, h, h1, _ => by
    simp at h
    subst h
    rw [List.findIdx?_cons, h1]
    rfl
  | x :: rs, i + 1, a, h, h1, h2 => by
    rw [List.take_succ_cons, List.all_cons, Bool.and_eq_true] at h2
    rw [List.findIdx?_cons, h2.1, find_at (by simpa using h) h1 h2.2]
    rfl
theorem find_none {f : PV → Bool} : ∀ {rs : List PV}, rs.all f = true → rs.findIdx? (fun a => !f a) = none
  | [], _ => rfl
  | x :: rs, h => by
    rw [List.all_cons, Bool.and_eq_true] at h
    rw [List.findIdx?_cons, h.1, find_none h.2]
    rfl
theorem find_all {f : PV → Bool} : ∀ {rs : List PV}, rs.findIdx? (fun a => !f a) = none → rs.all f = true
  | [], _ => rfl
  | x :: rs, h => by
    rw [List.findIdx?_cons] at h
    cases hx : f x with
    | false =>
      rw [hx] at h
      cases h
    | true =>
      rw [hx] at h
      rw [List.all_cons, hx, find_all (rs := rs) (by
        cases q : rs.findIdx? (fun a => !f a) with
        | none => rfl
        | some i =>
          rw [q] at h
          cases h)]
      rfl
theorem bkE_row {n : Nat} {rs : List PV} {i : Nat} {a : PV} (hne : rs ≠ []) (hl : rs.length ≤ 24) (h : rs[i]? = some a) (h1 : isRow n a = false) (h2 : (rs.take i).all (isRow n) = true) : bkE n (.tup rs) = er "BadBook" (i : Nat) := by
  show (if rs.isEmpty then er "BadBook" (-1) else if 24 < rs.length then er "TooMany" (rs.length : Nat) else match rs.findIdx? (fun a => !isRow n a) with
    | some i => er "BadBook" (i : Nat)
    | none => none) = _
  rw [if_neg (by simpa using hne), if_neg (by omega), find_at h h1 h2]
theorem bkE_ok {n : Nat} {rs : List PV} (hne : rs ≠ []) (hl : rs.length ≤ 24) (h : rs.all (isRow n) = true) : bkE n (.tup rs) = none := by
  show (if rs.isEmpty then er "BadBook" (-1) else if 24 < rs.length then er "TooMany" (rs.length : Nat) else match rs.findIdx? (fun a => !isRow n a) with
    | some i => er "BadBook" (i : Nat)
    | none => none) = _
  rw [if_neg (by simpa using hne), if_neg (by omega), find_none h]
theorem bkE_many {n : Nat} {rs : List PV} (hl : 24 < rs.length) : bkE n (.tup rs) = er "TooMany" (rs.length : Nat) := by
  show (if rs.isEmpty then er "BadBook" (-1) else if 24 < rs.length then er "TooMany" (rs.length : Nat) else match rs.findIdx? (fun a => !isRow n a) with
    | some i => er "BadBook" (i : Nat)
    | none => none) = _
  rw [if_neg (by cases rs <;> simp at *), if_pos hl]
theorem fn_made_book_any (S : Stt) (n : Nat) (t : PV) (h1 : 1 ≤ n) (h2 : n ≤ 8) (ht : thb t = true) (hk : okd 60 t = true) : Fn (den_made_book [.int n, t] S) (fun q s => s = S ∧ q = t ∧ bkE n t = none)
    (fun c w s => s = S ∧ ∃ i, w = .int i ∧ bkE n t = some (c, i)) := by
  have h' := thb_th ht
  by_cases hgood : ∃ rs, t = .tup rs ∧ rs ≠ [] ∧ rs.length ≤ 24
  · obtain ⟨rs, rfl, hne, hl⟩ := hgood
    exact Fn.mono (fn_made_book S n rs h1 h2 ht hk hne hl) (fun q s ⟨e1, e2, h⟩ => ⟨e1, e2, bkE_ok hne hl h⟩) fun c w s ⟨e1, e2, i, a, e3, q1, q2, q3⟩ => ⟨e1, i, e3, by rw [e2]; exact bkE_row hne hl q1 q2 q3⟩
  unfold den_made_book
  with_reducible refine fn_run ?_ ?_
  exact rfl
  unfold body_made_book
  walk_at "fss"
  refine no_implicit_lambda% (Fn.mono (show Fn (den_is_below [.int n, .int (8 + 1)] S) _ _ from fn_is_below S (.int n) 9 rfl) (fun q s' ⟨e1, e2⟩ => ?_) fun _ _ _ h => h.elim)
  subst e1 e2
  rw [show isBelow 9 (.int n) = true by simp [isBelow]; omega]
  rcases h' with ⟨m, rfl⟩ | ⟨b, rfl⟩ | rfl | ⟨x, rfl⟩ | ⟨rs, rfl⟩
  · walk_at "fss"
    · rename_i h
      omega
    · exact ⟨rfl, _, rfl, rfl⟩
  · walk_at "fss"
    · rename_i h
      omega
    · exact ⟨rfl, _, rfl, rfl⟩
  · walk_at "fss"
    · rename_i h
      omega
    · exact ⟨rfl, _, rfl, rfl⟩
  · walk_at "fss"
    · rename_i h
      omega
    · exact ⟨rfl, _, rfl, rfl⟩
  · walk_at "fss"
    · rename_i h
      omega
    · rcases rs with _ | ⟨a, r⟩
      · refine ⟨_, show pEq s' (.tup []) (.tup []) = some (.bl true) from by with_unfolding_all rfl, ?_⟩
        walk_at "fss"
        exact ⟨rfl, _, rfl, rfl⟩
      · refine ⟨_, show pEq s' (.tup (a :: r)) (.tup []) = some (.bl false) from pEq_v hk rfl rfl rfl eqv_nil, ?_⟩
        have hl : ¬ (a :: r).length ≤ 24 := fun h => hgood ⟨_, rfl, by simp, h⟩
        walk_at "fss"
        · exact ⟨rfl, _, rfl, bkE_many (by omega)⟩
        · exfalso
          omega
theorem isBd_un {p : PV} (h : isBound p = true) : bdP (unB p) = p ∧ ∀ u, unB p = some u → u ≤ 64 := by
  cases p with
  | int n =>
    simp only [isBound, isBelow, Bool.and_eq_true, decide_eq_true_eq] at h
    refine ⟨?_, fun u e => ?_⟩
    · show PV.int ((n.toNat : Nat) : Int) = _
      rw [Int.toNat_of_nonneg h.1]
    · cases e
      omega
  | non => exact ⟨rfl, fun u e => by cases e⟩
  | _ => cases h
theorem isRow_un {n : Nat} {p : PV} (h : isRow n p = true) : rwP (unR p) = p ∧ (unR p).length = n ∧ ∀ f ∈ unR p, (∀ u, f.1 = some u → u ≤ 64) ∧ (∀ v, f.2 = some v → v ≤ 64) := by
  cases p with
  | tup xs =>
    have h : (decide (xs.length = n) && xs.all isFate) = true := h
    rw [Bool.and_eq_true, decide_eq_true_eq] at h
    have key : ∀ x ∈ xs, ftP (unF x) = x ∧ (∀ u, (unF x).1 = some u → u ≤ 64) ∧ (∀ v, (unF x).2 = some v → v ≤ 64) := fun x hx => by
      obtain ⟨a, b, rfl, h1, h2⟩ := isFate_inv (List.all_eq_true.mp h.2 x hx)
      have q1 := isBd_un h1
      have q2 := isBd_un h2
      refine ⟨?_, q1.2, q2.2⟩
      show PV.tup [bdP (unB a), bdP (unB b)] = _
      rw [q1.1, q2.1]
    refine ⟨?_, ?_, fun f hf => ?_⟩
    · show PV.tup ((xs.map unF).map ftP) = _
      rw [List.map_map]
      exact congrArg PV.tup ((List.map_congr_left fun x hx => (key x hx).1).trans (List.map_id xs))
    · show (xs.map unF).length = n
      rw [List.length_map]
      exact h.1
    · obtain ⟨x, hx, rfl⟩ := List.mem_map.mp hf
      exact (key x hx).2
  | _ => cases h
def unK : PV → List (List Ft)
  | .tup xs => xs.map unR
  | _ => []
theorem bkE_none {n : Nat} {t : PV} (h : bkE n t = none) : t = bkP (unK t) ∧ okB n (unK t) := by
  cases t with
  | tup rs =>
    have h : (if rs.isEmpty then er "BadBook" (-1) else if 24 < rs.length then er "TooMany" (rs.length : Nat) else match rs.findIdx? (fun a => !isRow n a) with
      | some i => er "BadBook" (i : Nat)
      | none => none) = none := h
    split at h
    · cases h
    · rename_i h1
      split at h
      · cases h
      · rename_i h2
        split at h
        · cases h
        · rename_i h3
          have h4 := find_all h3
          refine ⟨?_, ?_, ?_, ?_⟩
          · show _ = PV.tup ((rs.map unR).map rwP)
            rw [List.map_map]
            exact congrArg PV.tup ((List.map_id rs).symm.trans (List.map_congr_left fun x hx => (isRow_un (List.all_eq_true.mp h4 x hx)).1.symm))
          · show rs.map unR ≠ []
            simpa using h1
          · show (rs.map unR).length ≤ 24
            rw [List.length_map]
            omega
          · intro r hr
            obtain ⟨x, hx, rfl⟩ := List.mem_map.mp hr
            exact (isRow_un (List.all_eq_true.mp h4 x hx)).2
  | _ => cases h
theorem unK_bk (bk : List (List Ft)) : unK (bkP bk) = bk := by
  show (bk.map rwP).map unR = bk
  rw [List.map_map]
  exact (List.map_congr_left fun r _ => unR_rw r).trans (List.map_id bk)
theorem bkE_bk {n : Nat} {bk : List (List Ft)} (h : okB n bk) : bkE n (bkP bk) = none := bkE_ok (fun z => h.1 (List.map_eq_nil_iff.mp z)) (by rw [List.length_map]; exact h.2.1) (rws_is h)
/-! ### charters -/
def shN : PV → Nat
  | .tup [_, _, .tup xs] => xs.length
  | _ => 0
def pN : PV → Int
  | .tup (.int p :: _) => p
  | _ => 0
def kN : PV → Int
  | .tup [_, .int k, _] => k
  | _ => 0
noncomputable def chE : PV → Option (Str × Int)
  | .tup [g, b] => match gdE g with
    | some i => er "BadGround" i
    | none => match bkE (shN g) b with
      | some e => some e
      | none => if pN g < 41 then er "BadCharter" 1 else if kN g < 3 then er "BadCharter" 2 else if brB (unK b) false = false then er "Hopeless" 0 else none
  | _ => er "BadCharter" 0
theorem chE_eq (g b : PV) : chE (.tup [g, b]) = match gdE g with
    | some i => er "BadGround" i
    | none => match bkE (shN g) b with
      | some e => some e
      | none => if pN g < 41 then er "BadCharter" 1 else if kN g < 3 then er "BadCharter" 2 else if brB (unK b) false = false then er "Hopeless" 0 else none := rfl
theorem chE_short {xs : List PV} (h : xs.length ≠ 2) : chE (.tup xs) = er "BadCharter" 0 := by
  rcases xs with _ | ⟨a, _ | ⟨b, _ | ⟨c, r⟩⟩⟩
  · rfl
  · rfl
  · exact absurd rfl h
  · rfl
theorem chE_gv {p k : Int} {xs : List Int} {bk : List (List Ft)} (hg : Gnd p k xs) (hb : okB xs.length bk) : chE (.tup [gv p k xs, bkP bk]) = if p < 41 then er "BadCharter" 1 else if k < 3 then er "BadCharter" 2 else if brB bk false = false then er "Hopeless" 0 else none := by
  rw [chE_eq, gdE_gnd hg, show shN (gv p k xs) = xs.length from ints_len xs, bkE_bk hb, unK_bk]
  rfl
theorem fn_made_charter (S : Stt) (t : PV) (ht : thb t = true) (hk : okd 30 t = true) : Fn (den_made_charter [t] S) (fun q s => s = S ∧ q = t ∧ chE t = none) (fun c w s => s = S ∧ ∃ i, w = .int i ∧ chE t = some (c, i)) := by
  have h' := thb_th ht
  unfold den_made_charter
  with_reducible refine fn_run ?_ ?_
  exact rfl
  unfold body_made_charter
  rcases h' with ⟨n, rfl⟩ | ⟨b, rfl⟩ | rfl | ⟨x, rfl⟩ | ⟨xs, rfl⟩
  · walk_at "fss"
    exact ⟨rfl, _, rfl, rfl⟩
  · walk_at "fss"
    exact ⟨rfl, _, rfl, rfl⟩
  · walk_at "fss"
    exact ⟨rfl, _, rfl, rfl⟩
  · walk_at "fss"
    exact ⟨rfl, _, rfl, rfl⟩
  · walk_at "fss"
    · rename_i hl
      exact ⟨rfl, _, rfl, chE_short fun h => hl (by rw [h]; rfl)⟩
    · rename_i hl
      obtain ⟨g, b, rfl⟩ : ∃ a b, xs = [a, b] := by
        rcases xs with _ | ⟨a, _ | ⟨b, _ | ⟨c, r⟩⟩⟩
        · cases hl
        · cases hl
        · exact ⟨a, b, rfl⟩
        · exact absurd hl (by simp only [List.length_cons]; omega)
      have hg : thb g = true := thbs_mem ht (by simp)
      have hb : thb b = true := thbs_mem ht (by simp)
      have hkb : okd 60 b = true := okd_up (k := 29) (by decide) (List.all_eq_true.mp (show [g, b].all (okd 29) = true from hk) b (by simp))
      walk_at "fss"
      refine no_implicit_lambda% (Fn.mono (fn_made_ground_any S g hg) (fun q s ⟨e1, e2, h1⟩ => ?_) fun c w s ⟨e1, e2, i, e3, h1⟩ => ⟨e1, i, e3, by rw [chE_eq, h1, e2]⟩)
      subst e1 e2
      obtain ⟨p, k, xs, rfl, hgn⟩ := gdE_none h1
      walk_at "fss"
      refine no_implicit_lambda% (Fn.mono (fn_shelves s p k xs hgn) (fun q s' ⟨e1, e2⟩ => ?_) fun _ _ _ h => h.elim)
      subst e1 e2
      walk_at "fss"
      refine no_implicit_lambda% (Fn.mono (fn_made_book_any s' xs.length b hgn.n1 hgn.n2 hb hkb) (fun q s ⟨e1, e2, h2⟩ => ?_) fun c w s ⟨e1, i, e3, h2⟩ => ⟨e1, i, e3, by rw [chE_eq, h1, show shN (gv p k xs) = xs.length from ints_len xs, h2]⟩)
      subst e1 e2
      obtain ⟨eb, hbk⟩ := bkE_none h2
      generalize unK q = bk at eb hbk
      subst eb
      have hch := chE_gv hgn hbk
      walk_at "fss"
      · rename_i hp
        exact ⟨rfl, _, rfl, by rw [hch, if_pos hp]⟩
      · rename_i hp hk3
        exact ⟨rfl, _, rfl, by rw [hch, if_neg (by omega), if_pos hk3]⟩
      · rename_i hp hk3
        refine no_implicit_lambda% (Fn.mono (fn_bearable hgn hbk s false) (fun q s' ⟨e1, e2⟩ => ?_) fun _ _ _ h => h.elim)
        subst e1 e2
        cases hc : brB bk false
        · walk_at "fss"
          exact ⟨rfl, _, rfl, by rw [hch, if_neg (by omega), if_neg (by omega), if_pos hc]⟩
        · walk_at "fss"
          exact ⟨rfl, rfl, by rw [hch, if_neg (by omega), if_neg (by omega), if_neg (by rw [hc]; decide)]⟩
end
end I
end FS
set_option Elab.async false
set_option linter.all false
set_option pp.maxSteps 700
set_option maxRecDepth 100000
set_option maxHeartbeats 8000000
namespace FS
open PySem L2
namespace I
section
local macro_rules | `(tactic| walk_at "okm") => `(tactic| first | (exact okMul_l (by omega)) | (exact okMul_r (by omega)) | decide)
local macro_rules | `(tactic| walk_at "fsW") => `(tactic| first
  | (with_reducible refine wp_useL ?_)
  | (with_reducible refine wp_lenL ?_)
  | (with_reducible refine wp_ixL ?_)
  | (with_reducible refine wp_mthL ?_)
  | ((with_reducible refine wp_gtupC ?_ ?_); exact rfl)
  | ((with_reducible refine wp_gtupZ ?_ ?_); exact rfl))
local macro_rules | `(tactic| walk_at "fsE") => `(tactic| first
  | ((with_reducible show ∃ ys, _ = some (Slot.own ys) ∧ _); refine x_own1 rfl ?_)
  | ((with_reducible refine x_mul ?_ ?_); (walk_at "okm"))
  | ((with_reducible refine x_div ?_ ?_ ?_); omega; omega)
  | ((with_reducible refine x_mod ?_ ?_); omega)
  | ((with_reducible refine x_pow ?_ ?_); decide)
  | ((with_reducible show ∃ k, _ = some (PV.bl k) ∧ _); refine x_chain rfl ?_)
  | ((with_reducible show ∃ n ys, _ = PV.ref n ∧ _ = some (SO.lst ys) ∧ _); refine x_mR rfl rfl ?_)
  | ((with_reducible show ∃ w, pIx _ _ _ = some w ∧ _); refine x_ix rfl ?_)
  | ((with_reducible show ∃ w, fLen _ _ = some w ∧ _); refine x_len rfl ?_)
  | ((with_reducible show ∃ w, fInt _ _ = some w ∧ _); refine x_int rfl ?_)
  | ((with_reducible refine x_isi (w := .bl true) ?_ ?_); exact rfl)
  | ((with_reducible refine x_isi (w := .bl false) ?_ ?_); exact rfl)
  | ((with_reducible show ∃ w, fTuple _ _ = some w ∧ _); refine x_tupf rfl ?_)
  | ((with_reducible show ∃ w, fMin _ _ = some w ∧ _); refine x_minf rfl ?_)
  | ((with_reducible show ∃ w, fMax _ _ = some w ∧ _); refine x_maxf rfl ?_)
  | ((with_reducible show ∃ w, pCut _ _ _ _ = some w ∧ _); refine x_pcut rfl ?_)
  | ((with_reducible show ∃ w, itemsOf _ _ = some w ∧ _); refine x_itm rfl ?_)
  | ((with_reducible show ∃ w, itemsF _ = some w ∧ _); refine x_itF rfl ?_)
  | ((with_reducible show ∃ i, _ = PV.int i ∧ _); refine x_part rfl ?_)
  | ((with_reducible show ∃ p q, _ = [p, q] ∧ _); refine x_par rfl ?_)
  | ((with_reducible show ∃ n xs j m, _ = PV.ref n ∧ _ = PV.int j ∧ _ ∧ _ ∧ _); refine x_setR rfl rfl rfl rfl ?_))
local macro_rules | `(tactic| walk_at "fsR") => `(tactic| first
  | ((with_reducible show Wp _ _ _); (walk_at "fsW"))
  | ((with_reducible show Exists _); (walk_at "fsE"))
  | ((with_reducible show LkS _ _ _); first | refine lks_v rfl ?_ | refine lks_o rfl ?_)
  | ((with_reducible show _ ≤ sizeLine ∧ _); refine x_low rfl ?_)
  | ((with_reducible show List.length _ = _ ∧ _); refine x_num rfl ?_))
local macro_rules | `(tactic| walk_at "fs1") => `(tactic| first | (with_reducible refine run1 ?_) | (walk_at "fsR"))
local macro_rules | `(tactic| walk_at "fs0") => `(tactic| first | (with_reducible refine stp1 ?_) | (walk_at "fsR"))
local macro_rules | `(tactic| walk_at "fs") => `(tactic| repeat (walk_at "fs1"))
local macro_rules | `(tactic| walk_at "fsp") => `(tactic| (with_reducible refine x_spl ?_ ?_) <;> (intro h; first | (simp only [Bool.not_true, Bool.not_false, reduceCtorEq, decide_eq_true_eq, decide_eq_false_iff_not, Bool.not_eq_true', Bool.not_eq_false', Bool.and_eq_true, Int.not_lt, Int.not_le, Bool.or_eq_true, Bool.and_eq_false_iff, Bool.or_eq_false_iff, Bool.false_and, Bool.true_and, Bool.or_false, Bool.false_or, beq_self_eq_true, Bool.true_or, List.isEmpty_nil, List.isEmpty_cons] at h) | skip))
local macro_rules | `(tactic| walk_at "fss") => `(tactic| repeat' (first | (walk_at "fs1") | (walk_at "fsp")))
/-! ### what is told of charters -/
theorem bkE_tab {n : Nat} {t : PV} {c : Str} {i : Int} (h : bkE n t = some (c, i)) : c = "BadBook" ∨ c = "TooMany" := by
  cases t with
  | tup rs =>
    have h : (if rs.isEmpty then er "BadBook" (-1) else if 24 < rs.length then er "TooMany" (rs.length : Nat) else match rs.findIdx? (fun a => !isRow n a) with
      | some i => er "BadBook" (i : Nat)
      | none => none) = some (c, i) := h
    split at h
    · cases h
      exact .inl rfl
    · split at h
      · cases h
        exact .inr rfl
      · split at h
        · cases h
          exact .inl rfl
        · cases h
  | _ => cases h; exact .inl rfl
theorem chE_tab {t : PV} {c : Str} {i : Int} (h : chE t = some (c, i)) : c = "BadCharter" ∨ c = "Hopeless" ∨ c = "BadGround" ∨ c = "BadBook" ∨ c = "TooMany" := by
  unfold chE at h
  split at h
  · split at h
    · cases h
      exact .inr (.inr (.inl rfl))
    · split at h
      · rename_i q
        cases h
        rcases bkE_tab q with rfl | rfl
        · exact .inr (.inr (.inr (.inl rfl)))
        · exact .inr (.inr (.inr (.inr rfl)))
      · split at h
        · cases h
          exact .inl rfl
        · split at h
          · cases h
            exact .inl rfl
          · split at h
            · cases h
              exact .inr (.inl rfl)
            · cases h
  · cases h
    exact .inl rfl
theorem fn_is_charter (S : Stt) (t : PV) (ht : thb t = true) (hk : okd 30 t = true) : Fn (den_is_charter [t] S) (fun q s => s = S ∧ q = .bl (chE t).isNone) noR := by
  unfold den_is_charter
  with_reducible refine fn_run ?_ ?_
  exact rfl
  unfold body_is_charter
  walk_at "fss"
  refine wp_try ?_
  walk_at "fss"
  refine no_implicit_lambda% (Fn.mono (fn_made_charter S t ht hk) (fun q s ⟨e1, e2, h1⟩ => ?_) fun c w s ⟨e1, i, e3, h1⟩ => ?_)
  · subst e1 e2
    walk_at "fss"
    exact ⟨rfl, by rw [h1]; rfl⟩
  · subst e1
    refine ⟨?_, wp_hbare ?_ ?_⟩
    · rcases chE_tab h1 with rfl | rfl | rfl | rfl | rfl <;> decide +kernel
    · rcases chE_tab h1 with rfl | rfl | rfl | rfl | rfl <;> decide +kernel
    · walk_at "fss"
      exact ⟨rfl, by rw [h1]; rfl⟩
/-- rows of charters -/
def isVol : PV → Bool
  | .int n => decide (0 ≤ n)
  | _ => false
theorem fn_is_volume (S : Stt) (t : PV) (ht : thb t = true) : Fn (den_is_volume [t] S) (fun q s => s = S ∧ q = .bl (isVol t)) noR := by
  have h' := thb_th ht
  unfold den_is_volume
  with_reducible refine fn_run ?_ ?_
  exact rfl
  unfold body_is_volume
  rcases h' with ⟨n, rfl⟩ | ⟨b, rfl⟩ | rfl | ⟨x, rfl⟩ | ⟨xs, rfl⟩
  all_goals walk_at "fss"
  all_goals exact ⟨rfl, rfl⟩
noncomputable def isEnt (a : Int) : PV → Bool
  | .tup [v, c] => isVol v && (decide (a < unI v) && (chE c).isNone)
  | _ => false
theorem isEnt_eq (a : Int) (v c : PV) : isEnt a (.tup [v, c]) = (isVol v && (decide (a < unI v) && (chE c).isNone)) := rfl
theorem fn_is_entry (S : Stt) (t : PV) (a : Int) (ht : thb t = true) (hk : okd 31 t = true) : Fn (den_is_entry [t, .int a] S) (fun q s => s = S ∧ q = .bl (isEnt a t)) noR := by
  have h' := thb_th ht
  unfold den_is_entry
  with_reducible refine fn_run ?_ ?_
  exact rfl
  unfold body_is_entry
  rcases h' with ⟨n, rfl⟩ | ⟨b, rfl⟩ | rfl | ⟨x, rfl⟩ | ⟨xs, rfl⟩
  · walk_at "fss"
    exact ⟨rfl, rfl⟩
  · walk_at "fss"
    exact ⟨rfl, rfl⟩
  · walk_at "fss"
    exact ⟨rfl, rfl⟩
  · walk_at "fss"
    exact ⟨rfl, rfl⟩
  · walk_at "fss"
    · rename_i hl
      refine ⟨rfl, ?_⟩
      rcases xs with _ | ⟨a, _ | ⟨b, _ | ⟨c, r⟩⟩⟩
      · rfl
      · rfl
      · exact absurd rfl hl
      · rfl
    · rename_i hl
      obtain ⟨v, c, rfl⟩ : ∃ a b, xs = [a, b] := by
        rcases xs with _ | ⟨a, _ | ⟨b, _ | ⟨c, r⟩⟩⟩
        · cases hl
        · cases hl
        · exact ⟨a, b, rfl⟩
        · exact absurd hl (by simp only [List.length_cons]; omega)
      have hv : thb v = true := thbs_mem ht (by simp)
      have hc : thb c = true := thbs_mem ht (by simp)
      have hkc : okd 30 c = true := List.all_eq_true.mp (show [v, c].all (okd 30) = true from hk) c (by simp)
      walk_at "fss"
      refine no_implicit_lambda% (Fn.mono (fn_is_volume S v hv) (fun q s ⟨e1, e2⟩ => ?_) fun _ _ _ h => h.elim)
      subst e1 e2
      cases h1 : isVol v
      · walk_at "fss"
        exact ⟨rfl, by rw [isEnt_eq, h1]; rfl⟩
      · obtain ⟨n, rfl⟩ : ∃ n, v = .int n := by
          cases v with
          | int n => exact ⟨n, rfl⟩
          | _ => cases h1
        walk_at "fss"
        · rename_i h2
          refine no_implicit_lambda% (Fn.mono (fn_is_charter s c hc hkc) (fun q s' ⟨e1, e2⟩ => ?_) fun _ _ _ h => h.elim)
          subst e1 e2
          refine ⟨rfl, ?_⟩
          rw [isEnt_eq, h1, show unI (PV.int n) = n from rfl, decide_eq_true (by omega)]
          rfl
        · rename_i h2
          refine ⟨rfl, ?_⟩
          rw [isEnt_eq, h1, show unI (PV.int n) = n from rfl, decide_eq_false (by omega)]
          rfl
end
end I
end FS
set_option Elab.async false
set_option linter.all false
set_option pp.maxSteps 700
set_option maxRecDepth 100000
set_option maxHeartbeats 8000000
namespace FS
open PySem L2
namespace I
section
local macro_rules | `(tactic| walk_at "okm") => `(tactic| first | (exact okMul_l (by omega)) | (exact okMul_r (by omega)) | decide)
local macro_rules | `(tactic| walk_at "fsW") => `(tactic| first
  | (with_reducible refine wp_useL ?_)
  | (with_reducible refine wp_lenL ?_)
  | (with_reducible refine wp_ixL ?_)
  | (with_reducible refine wp_mthL ?_)
  | ((with_reducible refine wp_gtupC ?_ ?_); exact rfl)
  | ((with_reducible refine wp_gtupZ ?_ ?_); exact rfl))
local macro_rules | `(tactic| walk_at "fsE") => `(tactic| first
  | ((with_reducible show ∃ ys, _ = some (Slot.own ys) ∧ _); refine x_own1 rfl ?_)
  | ((with_reducible refine x_mul ?_ ?_); (walk_at "okm"))
  | ((with_reducible refine x_div ?_ ?_ ?_); omega; omega)
  | ((with_reducible refine x_mod ?_ ?_); omega)
  | ((with_reducible refine x_pow ?_ ?_); decide)
  | ((with_reducible show ∃ k, _ = some (PV.bl k) ∧ _); refine x_chain rfl ?_)
  | ((with_reducible show ∃ n ys, _ = PV.ref n ∧ _ = some (SO.lst ys) ∧ _); refine x_mR rfl rfl ?_)
  | ((with_reducible show ∃ w, pIx _ _ _ = some w ∧ _); refine x_ix rfl ?_)
  | ((with_reducible show ∃ w, fLen _ _ = some w ∧ _); refine x_len rfl ?_)
  | ((with_reducible show ∃ w, fInt _ _ = some w ∧ _); refine x_int rfl ?_)
  | ((with_reducible refine x_isi (w := .bl true) ?_ ?_); exact rfl)
  | ((with_reducible refine x_isi (w := .bl false) ?_ ?_); exact rfl)
  | ((with_reducible show ∃ w, fTuple _ _ = some w ∧ _); refine x_tupf rfl ?_)
  | ((with_reducible show ∃ w, fMin _ _ = some w ∧ _); refine x_minf rfl ?_)
  | ((with_reducible show ∃ w, fMax _ _ = some w ∧ _); refine x_maxf rfl ?_)
  | ((with_reducible show ∃ w, pCut _ _ _ _ = some w ∧ _); refine x_pcut rfl ?_)
  | ((with_reducible show ∃ w, itemsOf _ _ = some w ∧ _); refine x_itm rfl ?_)
  | ((with_reducible show ∃ w, itemsF _ = some w ∧ _); refine x_itF rfl ?_)
  | ((with_reducible show ∃ i, _ = PV.int i ∧ _); refine x_part rfl ?_)
  | ((with_reducible show ∃ p q, _ = [p, q] ∧ _); refine x_par rfl ?_)
  | ((with_reducible show ∃ n xs j m, _ = PV.ref n ∧ _ = PV.int j ∧ _ ∧ _ ∧ _); refine x_setR rfl rfl rfl rfl ?_))
local macro_rules | `(tactic| walk_at "fsR") => `(tactic| first
  | ((with_reducible show Wp _ _ _); (walk_at "fsW"))
  | ((with_reducible show Exists _); (walk_at "fsE"))
  | ((with_reducible show LkS _ _ _); first | refine lks_v rfl ?_ | refine lks_o rfl ?_)
  | ((with_reducible show _ ≤ sizeLine ∧ _); refine x_low rfl ?_)
  | ((with_reducible show List.length _ = _ ∧ _); refine x_num rfl ?_))
local macro_rules | `(tactic| walk_at "fs1") => `(tactic| first | (with_reducible refine run1 ?_) | (walk_at "fsR"))
local macro_rules | `(tactic| walk_at "fs0") => `(tactic| first | (with_reducible refine stp1 ?_) | (walk_at "fsR"))
local macro_rules | `(tactic| walk_at "fs") => `(tactic| repeat (walk_at "fs1"))
local macro_rules | `(tactic| walk_at "fsp") => `(tactic| (with_reducible refine x_spl ?_ ?_) <;> (intro h; first | (simp only [Bool.not_true, Bool.not_false, reduceCtorEq, decide_eq_true_eq, decide_eq_false_iff_not, Bool.not_eq_true', Bool.not_eq_false', Bool.and_eq_true, Int.not_lt, Int.not_le, Bool.or_eq_true, Bool.and_eq_false_iff, Bool.or_eq_false_iff, Bool.false_and, Bool.true_and, Bool.or_false, Bool.false_or, beq_self_eq_true, Bool.true_or, List.isEmpty_nil, List.isEmpty_cons] at h) | skip))
local macro_rules | `(tactic| walk_at "fss") => `(tactic| repeat' (first | (walk_at "fs1") | (walk_at "fsp")))
local macro_rules | `(tactic| walk_at "fd1") => `(tactic| first
  | ((with_reducible refine go_draw ?_ ?_ ?_ ?_); assumption; (first | omega | decide); (first | omega | decide); intro s' v hp hv0 hv1)
  | (walk_at "fs1") | (walk_at "fsp"))
local macro_rules | `(tactic| walk_at "fdi1") => `(tactic| first
  | ((with_reducible refine go_draw ?_ ?_ ?_ ?_); assumption; (first | omega | decide); (first | omega | decide); intro s' v hp hv0 hv1)
  | (walk_at "fs0") | (walk_at "fsp"))
local macro_rules | `(tactic| walk_at "fd") => `(tactic| repeat' (walk_at "fd1"))
local macro_rules | `(tactic| walk_at "fdi") => `(tactic| repeat' ((fail_if_success (with_reducible show Wp (dSeq (dIf _ _ _) _ _ _) _ _)); (walk_at "fdi1")))
/-! ### many charters -/
def volAt (xs : List PV) (m : Nat) : Int := if m = 0 then -1 else match xs.getD (m - 1) .non with
  | .tup (v :: _) => unI v
  | _ => 0
theorem fn_made_charters (S : Stt) (xs : List PV) (ht : thbs xs = true) (hk : okd 32 (.tup xs) = true) (hl : xs.length ≤ 100) : Fn (den_made_charters [.tup xs] S) (fun q s => s = S ∧ q = .tup xs ∧ ∀ m a, xs[m]? = some a → isEnt (volAt xs m) a = true)
    (fun c w s => s = S ∧ c = "BadCharters" ∧ ∃ (m : Nat) (a : PV), w = .int m ∧ xs[m]? = some a ∧ isEnt (volAt xs m) a = false ∧ ∀ j, j < m → ∀ b, xs[j]? = some b → isEnt (volAt xs j) b = true) := by
  unfold den_made_charters
  with_reducible refine fn_run ?_ ?_
  exact rfl
  unfold body_made_charters
  walk_at "fss"
  with_reducible refine wp_for ?_
  walk_at "fss"
  refine x_rng1 (by omega) (by omega) ?_
  rw [Int.toNat_natCast]
  refine ⟨fun m e s => s = S ∧ (∀ j, j < m → ∀ b, xs[j]? = some b → isEnt (volAt xs j) b = true) ∧ ∃ x, e = [.val (.tup xs), .val (.int (volAt xs m)), x], ⟨rfl, fun j h => absurd h (Nat.not_lt_zero j), _, rfl⟩, fun m t e s hi ⟨e1, h1, x, e2⟩ => ?_, fun e s ⟨e1, h1, x, e2⟩ => ?_⟩
  · obtain ⟨hj, rfl⟩ := rng_get _ _ _ _ hi
    subst e1 e2
    have hx : xs[m]? = some xs[m] := List.getElem?_eq_getElem hj
    generalize xs[m] = y at hx
    have hy : thb y = true := thbs_mem ht (List.mem_of_getElem? hx)
    have hky : okd 31 y = true := List.all_eq_true.mp (show xs.all (okd 31) = true from hk) y (List.mem_of_getElem? hx)
    walk_at "fss"
    refine x_ix (atI_nat hx) ?_
    walk_at "fss"
    refine no_implicit_lambda% (Fn.mono (fn_is_entry s y (volAt xs m) hy hky) (fun q s' ⟨e1, e2⟩ => ?_) fun _ _ _ h => h.elim)
    subst e1 e2
    cases hc : isEnt (volAt xs m) y
    · walk_at "fss"
      exact ⟨rfl, rfl, m, y, rfl, hx, hc, h1⟩
    · obtain ⟨v, c, rfl⟩ : ∃ v c, y = .tup [v, c] := by
        unfold isEnt at hc
        split at hc
        · exact ⟨_, _, rfl⟩
        · cases hc
      have hv : isVol v = true := by
        rw [isEnt_eq, Bool.and_eq_true] at hc
        exact hc.1
      obtain ⟨n, rfl⟩ : ∃ n, v = .int n := by
        cases v with
        | int n => exact ⟨n, rfl⟩
        | _ => cases hv
      walk_at "fss"
      refine x_ix (atI_nat hx) ?_
      walk_at "fss"
      refine ⟨rfl, fun j hj b hb => ?_, .val (.int m), ?_⟩
      · rcases Nat.lt_or_ge j m with h | h
        · exact h1 j h b hb
        · have : j = m := by omega
          subst this
          rw [hx] at hb
          cases hb
          exact hc
      · have : volAt xs (m + 1) = n := by
          unfold volAt
          rw [if_neg (by omega), Nat.add_sub_cancel, getD_some hx]
          rfl
        rw [this]
        rfl
  · subst e1 e2
    rw [List.length_map, List.length_range] at h1
    walk_at "fss"
    exact ⟨rfl, rfl, fun m a hm => h1 m (List.getElem?_eq_some_iff.mp hm).1 a hm⟩
theorem fn_made_charters_no (S : Stt) : Fn (den_made_charters [.non] S) (fun _ _ => False) (fun c w s => s = S ∧ c = "BadCharters" ∧ w = .int (-1)) := by
  unfold den_made_charters
  with_reducible refine fn_run ?_ ?_
  exact rfl
  unfold body_made_charters
  walk_at "fss"
  exact ⟨rfl, rfl, rfl⟩
/-! ### refusals -/
def tab6 : List Str := ["BadCharter", "Hopeless", "BadGround", "BadBook", "TooMany", "BadCharters"]
def hV (c : Str) (w : PV) : PV := if c = "BadCharter" then .tup [.str "charter", w] else if c = "Hopeless" then .tup [.str "hopeless", w] else if c = "BadGround" then .tup [.str "ground", w] else if c = "BadBook" then .tup [.str "book", w] else if c = "TooMany" then .tup [.str "many", w] else .tup [.str "charters", w]
theorem hV_c (w : PV) : hV "BadCharter" w = .tup [.str "charter", w] := by unfold hV; rw [if_pos rfl]
theorem hV_h (w : PV) : hV "Hopeless" w = .tup [.str "hopeless", w] := by unfold hV; rw [if_neg (by decide +kernel), if_pos rfl]
theorem hV_g (w : PV) : hV "BadGround" w = .tup [.str "ground", w] := by unfold hV; rw [if_neg (by decide +kernel), if_neg (by decide +kernel), if_pos rfl]
theorem hV_b (w : PV) : hV "BadBook" w = .tup [.str "book", w] := by unfold hV; rw [if_neg (by decide +kernel), if_neg (by decide +kernel), if_neg (by decide +kernel), if_pos rfl]
theorem hV_m (w : PV) : hV "TooMany" w = .tup [.str "many", w] := by unfold hV; rw [if_neg (by decide +kernel), if_neg (by decide +kernel), if_neg (by decide +kernel), if_neg (by decide +kernel), if_pos rfl]
theorem hV_s (w : PV) : hV "BadCharters" w = .tup [.str "charters", w] := by unfold hV; rw [if_neg (by decide +kernel), if_neg (by decide +kernel), if_neg (by decide +kernel), if_neg (by decide +kernel), if_neg (by decide +kernel)]
theorem c_rc : catches "Refused" "BadCharter" = true := by decide +kernel
theorem c_hc : catches "Hopeless" "BadCharter" = false := by decide +kernel
theorem den_heard (f : Addr) (act : Stt → Res) (s : Stt) (Q : PV → Stt → Prop) (h : Fn (act s) (fun _ s => Q .non s) (fun c w s => tab6.contains c = true ∧ Q (hV c w) s)) : Fn (den__law_heard f act s) Q noR := by
  unfold den__law_heard
  refine fn_lam ?_
  unfold body__law_heard
  walk_at "fss"
  refine wp_try ?_
  walk_at "fss"
  refine wp_act rfl rfl ?_
  refine no_implicit_lambda% (Fn.mono h (fun p s h => ?_) fun c w s ⟨h1, h2⟩ => ?_)
  · walk_at "fss"
    exact h
  · have hc : c = "BadCharter" ∨ c = "Hopeless" ∨ c = "BadGround" ∨ c = "BadBook" ∨ c = "TooMany" ∨ c = "BadCharters" := by simpa [tab6] using h1
    rcases hc with rfl | rfl | rfl | rfl | rfl | rfl
    · rw [hV_c] at h2
      refine ⟨by decide +kernel, wp_htake (o := .ok (.ret (.tup [.str "charter", w])) [.none, .none] s) (by decide +kernel) (fun a b => ?_) (wp_ok ?_)⟩
      · rw [c_rc, c_hc]
        simp [dRet, bnd, Out.bind, dTup, dCons, dWhat, dNil, ret, clearO, sizeLine, List.replicate, dIfE, dAndT, dNotT, dTru, dIsE, tru]
      · exact h2
    · rw [hV_h] at h2
      refine ⟨by decide +kernel, wp_hskip (by decide +kernel) (wp_htake (o := .ok (.ret (.tup [.str "hopeless", w])) [.none, .none] s) (by decide +kernel) (fun a b => ?_) (wp_ok ?_))⟩
      · simp [dRet, bnd, Out.bind, dTup, dCons, dWhat, dNil, ret, clearO, sizeLine, List.replicate]
      · exact h2
    · rw [hV_g] at h2
      refine ⟨by decide +kernel, wp_hskip (by decide +kernel) (wp_hskip (by decide +kernel) (wp_htake (o := .ok (.ret (.tup [.str "ground", w])) [.none, .none] s) (by decide +kernel) (fun a b => ?_) (wp_ok ?_)))⟩
      · simp [dRet, bnd, Out.bind, dTup, dCons, dWhat, dNil, ret, clearO, sizeLine, List.replicate]
      · exact h2
    · rw [hV_b] at h2
      refine ⟨by decide +kernel, wp_hskip (by decide +kernel) (wp_hskip (by decide +kernel) (wp_hskip (by decide +kernel) (wp_htake (o := .ok (.ret (.tup [.str "book", w])) [.none, .none] s) (by decide +kernel) (fun a b => ?_) (wp_ok ?_))))⟩
      · simp [dRet, bnd, Out.bind, dTup, dCons, dWhat, dNil, ret, clearO, sizeLine, List.replicate]
      · exact h2
    · rw [hV_m] at h2
      refine ⟨by decide +kernel, wp_hskip (by decide +kernel) (wp_hskip (by decide +kernel) (wp_hskip (by decide +kernel) (wp_hskip (by decide +kernel) (wp_htake (o := .ok (.ret (.tup [.str "many", w])) [.none, .none] s) (by decide +kernel) (fun a b => ?_) (wp_ok ?_)))))⟩
      · simp [dRet, bnd, Out.bind, dTup, dCons, dWhat, dNil, ret, clearO, sizeLine, List.replicate]
      · exact h2
    · rw [hV_s] at h2
      refine ⟨by decide +kernel, wp_hskip (by decide +kernel) (wp_hskip (by decide +kernel) (wp_hskip (by decide +kernel) (wp_hskip (by decide +kernel) (wp_hskip (by decide +kernel) (wp_htake (o := .ok (.ret (.tup [.str "charters", w])) [.none, .none] s) (by decide +kernel) (fun a b => ?_) (wp_ok ?_))))))⟩
      · simp [dRet, bnd, Out.bind, dTup, dCons, dWhat, dNil, ret, clearO, sizeLine, List.replicate]
      · exact h2
theorem go_heard {d : Cd PV} {e : Env} {s : Stt} {Q : Pq PV} {R : Pr} (h : Wp (d (hide e) s) (fun _ _ s => Q .non e s) (fun c w _ s => tab6.contains c = true ∧ Q (hV c w) e s)) : Wp (dLam den__law_heard d e s) Q R :=
  wp_lam (v0 := fun _ => .non) (val := hV) (tab := tab6) den_heard h
/-- what is due of a charter -/
def dueV : Option (Str × Int) → PV
  | none => .non
  | some (c, i) => hV c (.int i)
theorem hV_tup (c : Str) (w : PV) : ∃ x, hV c w = .tup [.str x, w] ∧ PyData.strOk x = true := by
  unfold hV
  split
  · exact ⟨_, rfl, by decide +kernel⟩
  · split
    · exact ⟨_, rfl, by decide +kernel⟩
    · split
      · exact ⟨_, rfl, by decide +kernel⟩
      · split
        · exact ⟨_, rfl, by decide +kernel⟩
        · split
          · exact ⟨_, rfl, by decide +kernel⟩
          · exact ⟨_, rfl, by decide +kernel⟩
theorem x_neE {s : Stt} {c : Str} {i : Int} {Q : PV → Prop} (h : PyData.strOk c = true) (hq : Q (.bl false)) : ∃ w, pNe s (.tup [.str c, .int i]) (.tup [.str c, .int i]) = some w ∧ Q w := by
  refine x_neS (okd_tup fun x hx => ?_) rfl hq
  simp only [List.mem_cons, List.not_mem_nil, or_false] at hx
  rcases hx with rfl | rfl
  · exact h
  · rfl
theorem x_eqE {s : Stt} {c : Str} {i : Int} {Q : PV → Prop} (h : PyData.strOk c = true) (hq : Q (.bl true)) : ∃ w, pEq s (.tup [.str c, .int i]) (.tup [.str c, .int i]) = some w ∧ Q w := by
  refine x_eqS (okd_tup fun x hx => ?_) rfl hq
  simp only [List.mem_cons, List.not_mem_nil, or_false] at hx
  rcases hx with rfl | rfl
  · exact h
  · rfl
theorem fn_is_told (S : Stt) (t : PV) (ht : thb t = true) (hk : okd 30 t = true) : Fn (den__law_is_told [t, dueV (chE t)] S) (fun q s => s = S ∧ q = .bl true) noR := by
  unfold den__law_is_told
  with_reducible refine fn_run ?_ ?_
  exact rfl
  unfold body__law_is_told
  walk_at "fss"
  refine no_implicit_lambda% (Fn.mono (fn_is_charter S t ht hk) (fun q s ⟨e1, e2⟩ => ?_) fun _ _ _ h => h.elim)
  subst e1 e2
  cases hc : chE t with
  | none =>
    have hr : ∃ rs, t = .tup rs := by
      cases t with
      | tup rs => exact ⟨rs, rfl⟩
      | _ => cases hc
    obtain ⟨rs, rfl⟩ := hr
    show Wp _ _ _
    simp only [dueV, Option.isNone_none]
    walk_at "fss"
    refine ⟨_, rfl, ?_⟩
    walk_at "fss"
    refine ⟨_, show pNe s (.bl true) (.bl true) = some (.bl false) from by with_unfolding_all rfl, ?_⟩
    walk_at "fss"
    refine no_implicit_lambda% (go_heard ?_)
    walk_at "fss"
    refine no_implicit_lambda% (Fn.mono (fn_made_charter s (.tup rs) ht hk) (fun q s' ⟨e1, e2, _⟩ => ?_) fun c w s' ⟨e1, i, e3, h1⟩ => ?_)
    · subst e1
      walk_at "fss"
      refine ⟨_, show pNe s' .non .non = some (.bl false) from by with_unfolding_all rfl, ?_⟩
      walk_at "fss"
      refine ⟨_, rfl, ?_⟩
      walk_at "fss"
      refine no_implicit_lambda% (Fn.mono (fn_made_charter s' (.tup rs) ht hk) (fun q s ⟨e1, e2, _⟩ => ?_) fun c w s' ⟨e1, i, e3, h1⟩ => ?_)
      · subst e1 e2
        walk_at "fss"
        refine x_eqS (okd_up (by decide) hk) ht ?_
        exact ⟨rfl, rfl⟩
      · rw [hc] at h1
        cases h1
    · rw [hc] at h1
      cases h1
  | some ci =>
    obtain ⟨c, i⟩ := ci
    obtain ⟨x, ex, hx⟩ := hV_tup c (.int i)
    simp only [dueV, Option.isNone_some]
    rw [ex]
    walk_at "fss"
    refine ⟨_, rfl, ?_⟩
    walk_at "fss"
    refine ⟨_, show pNe s (.bl false) (.bl false) = some (.bl false) from by with_unfolding_all rfl, ?_⟩
    walk_at "fss"
    refine no_implicit_lambda% (go_heard ?_)
    walk_at "fss"
    refine no_implicit_lambda% (Fn.mono (fn_made_charter s t ht hk) (fun q s' ⟨e1, e2, h1⟩ => ?_) fun c' w s' ⟨e1, i', e3, h1⟩ => ?_)
    · rw [hc] at h1
      cases h1
    · rw [hc] at h1
      cases h1
      subst e1 e3
      refine ⟨?_, ?_⟩
      · rcases chE_tab hc with rfl | rfl | rfl | rfl | rfl <;> decide +kernel
      rw [ex]
      walk_at "fss"
      refine x_neE hx ?_
      walk_at "fss"
      refine ⟨_, rfl, ?_⟩
      walk_at "fss"
      exact ⟨rfl, rfl⟩
end
end I
end FS
set_option Elab.async false
set_option linter.all false
set_option pp.maxSteps 700
set_option maxRecDepth 100000
set_option maxHeartbeats 8000000
namespace FS
open PySem L2
namespace I
section
local macro_rules | `(tactic| walk_at "okm") => `(tactic| first | (exact okMul_l (by omega)) | (exact okMul_r (by omega)) | decide)
local macro_rules | `(tactic| walk_at "fsW") => `(tactic| first
  | (with_reducible refine wp_useL ?_)
  | (with_reducible refine wp_lenL ?_)
  | (with_reducible refine wp_ixL ?_)
  | (with_reducible refine wp_mthL ?_)
  | ((with_reducible refine wp_gtupC ?_ ?_); exact rfl)
  | ((with_reducible refine wp_gtupZ ?_ ?_); exact rfl))
local macro_rules | `(tactic| walk_at "fsE") => `(tactic| first
  | ((with_reducible show ∃ ys, _ = some (Slot.own ys) ∧ _); refine x_own1 rfl ?_)
  | ((with_reducible refine x_mul ?_ ?_); (walk_at "okm"))
  | ((with_reducible refine x_div ?_ ?_ ?_); omega; omega)
  | ((with_reducible refine x_mod ?_ ?_); omega)
  | ((with_reducible refine x_pow ?_ ?_); decide)
  | ((with_reducible show ∃ k, _ = some (PV.bl k) ∧ _); refine x_chain rfl ?_)
  | ((with_reducible show ∃ n ys, _ = PV.ref n ∧ _ = some (SO.lst ys) ∧ _); refine x_mR rfl rfl ?_)
  | ((with_reducible show ∃ w, pIx _ _ _ = some w ∧ _); refine x_ix rfl ?_)
  | ((with_reducible show ∃ w, fLen _ _ = some w ∧ _); refine x_len rfl ?_)
  | ((with_reducible show ∃ w, fInt _ _ = some w ∧ _); refine x_int rfl ?_)
  | ((with_reducible refine x_isi (w := .bl true) ?_ ?_); exact rfl)
  | ((with_reducible refine x_isi (w := .bl false) ?_ ?_); exact rfl)
  | ((with_reducible show ∃ w, fTuple _ _ = some w ∧ _); refine x_tupf rfl ?_)
  | ((with_reducible show ∃ w, fMin _ _ = some w ∧ _); refine x_minf rfl ?_)
  | ((with_reducible show ∃ w, fMax _ _ = some w ∧ _); refine x_maxf rfl ?_)
  | ((with_reducible show ∃ w, pCut _ _ _ _ = some w ∧ _); refine x_pcut rfl ?_)
  | ((with_reducible show ∃ w, itemsOf _ _ = some w ∧ _); refine x_itm rfl ?_)
  | ((with_reducible show ∃ w, itemsF _ = some w ∧ _); refine x_itF rfl ?_)
  | ((with_reducible show ∃ i, _ = PV.int i ∧ _); refine x_part rfl ?_)
  | ((with_reducible show ∃ p q, _ = [p, q] ∧ _); refine x_par rfl ?_)
  | ((with_reducible show ∃ n xs j m, _ = PV.ref n ∧ _ = PV.int j ∧ _ ∧ _ ∧ _); refine x_setR rfl rfl rfl rfl ?_))
local macro_rules | `(tactic| walk_at "fsR") => `(tactic| first
  | ((with_reducible show Wp _ _ _); (walk_at "fsW"))
  | ((with_reducible show Exists _); (walk_at "fsE"))
  | ((with_reducible show LkS _ _ _); first | refine lks_v rfl ?_ | refine lks_o rfl ?_)
  | ((with_reducible show _ ≤ sizeLine ∧ _); refine x_low rfl ?_)
  | ((with_reducible show List.length _ = _ ∧ _); refine x_num rfl ?_))
local macro_rules | `(tactic| walk_at "fs1") => `(tactic| first | (with_reducible refine run1 ?_) | (walk_at "fsR"))
local macro_rules | `(tactic| walk_at "fs0") => `(tactic| first | (with_reducible refine stp1 ?_) | (walk_at "fsR"))
local macro_rules | `(tactic| walk_at "fs") => `(tactic| repeat (walk_at "fs1"))
local macro_rules | `(tactic| walk_at "fsp") => `(tactic| (with_reducible refine x_spl ?_ ?_) <;> (intro h; first | (simp only [Bool.not_true, Bool.not_false, reduceCtorEq, decide_eq_true_eq, decide_eq_false_iff_not, Bool.not_eq_true', Bool.not_eq_false', Bool.and_eq_true, Int.not_lt, Int.not_le, Bool.or_eq_true, Bool.and_eq_false_iff, Bool.or_eq_false_iff, Bool.false_and, Bool.true_and, Bool.or_false, Bool.false_or, beq_self_eq_true, Bool.true_or, List.isEmpty_nil, List.isEmpty_cons] at h) | skip))
local macro_rules | `(tactic| walk_at "fss") => `(tactic| repeat' (first | (walk_at "fs1") | (walk_at "fsp")))
local macro_rules | `(tactic| walk_at "fd1") => `(tactic| first
  | ((with_reducible refine go_draw ?_ ?_ ?_ ?_); assumption; (first | omega | decide); (first | omega | decide); intro s' v hp hv0 hv1)
  | (walk_at "fs1") | (walk_at "fsp"))
local macro_rules | `(tactic| walk_at "fdi1") => `(tactic| first
  | ((with_reducible refine go_draw ?_ ?_ ?_ ?_); assumption; (first | omega | decide); (first | omega | decide); intro s' v hp hv0 hv1)
  | (walk_at "fs0") | (walk_at "fsp"))
local macro_rules | `(tactic| walk_at "fd") => `(tactic| repeat' (walk_at "fd1"))
local macro_rules | `(tactic| walk_at "fdi") => `(tactic| repeat' ((fail_if_success (with_reducible show Wp (dSeq (dIf _ _ _) _ _ _) _ _)); (walk_at "fdi1")))
/-! drawn books and weavings -/
theorem in_intsL (S : Stt) (y : Int) (xs : List Int) : pInA S (.int y) (.lst (iL xs)) = some (.bl (decide (y ∈ xs))) := by
  have h1 : okd 60 (.lst (iL xs)) = true := okd_intsT 59 xs
  have h2 : okd 60 (.int y) = true := rfl
  rw [← any_ints]
  unfold pInA pIn
  simp only [h1, h2, Bool.and_self, if_true]
  rfl
def okF (f : Ft) : Prop := (∀ u, f.1 = some u → u ≤ 64) ∧ (∀ v, f.2 = some v → v ≤ 64)
def okR (n : Nat) (r : List Ft) : Prop := r.length = n ∧ ∀ f ∈ r, okF f
theorem ok00 : okF (some 0, some 0) := ⟨fun u h => by cases h; decide, fun u h => by cases h; decide⟩
theorem snocR {m : Nat} {r : List Ft} {f : Ft} (h : okR m r) (hf : okF f) : okR (m + 1) (r ++ [f]) :=
  ⟨by rw [List.length_append, h.1]; rfl, fun g hg => by
    rcases List.mem_append.mp hg with q | q
    · exact h.2 g q
    · have : g = f := by simpa using q
      rw [this]
      exact hf⟩
theorem fn_law_bound (S : Stt) (hP : Pool S) : Fn (den__law_bound [.ref 1] S) (fun q s => Pool s ∧ ∃ a : Option Nat, q = bdP a ∧ ∀ u, a = some u → u ≤ 64) noR := by
  unfold den__law_bound
  with_reducible refine fn_run ?_ ?_
  exact rfl
  unfold body__law_bound
  walk_at "fss"
  refine no_implicit_lambda% (go_pick hP (by simp) (by simp) (fun s q hP hm => ?_))
  refine ⟨hP, ?_⟩
  simp only [List.mem_cons, List.not_mem_nil, or_false] at hm
  rcases hm with rfl | rfl | rfl | rfl | rfl | rfl | rfl | rfl
  · exact ⟨some 0, rfl, fun u h => by cases h; decide⟩
  · exact ⟨some 0, rfl, fun u h => by cases h; decide⟩
  · exact ⟨some 0, rfl, fun u h => by cases h; decide⟩
  · exact ⟨some 1, rfl, fun u h => by cases h; decide⟩
  · exact ⟨some 1, rfl, fun u h => by cases h; decide⟩
  · exact ⟨some 2, rfl, fun u h => by cases h; decide⟩
  · exact ⟨some 3, rfl, fun u h => by cases h; decide⟩
  · exact ⟨none, rfl, fun u h => by cases h⟩
theorem fn_law_row (S : Stt) (hP : Pool S) (n : Nat) (h1 : 1 ≤ n) (hn : n ≤ 8) : Fn (den__law_row [.ref 1, .int n] S) (fun q s => Pool s ∧ ∃ r, q = rwP r ∧ okR n r) noR := by
  unfold den__law_row
  with_reducible refine fn_run ?_ ?_
  exact rfl
  unfold body__law_row
  walk_at "fd"
  · with_reducible refine wp_comp ?_
    walk_at "fd"
    refine x_rng1 (by omega) (by omega) ?_
    rw [Int.toNat_natCast]
    refine ⟨fun m acc e s => Pool s ∧ (∃ r : List Ft, acc = r.map ftP ∧ okR m r) ∧ e = [.val (.ref 1), .val (.int n), .none, .none, .none], ⟨by assumption, ⟨[], rfl, rfl, fun f h => by cases h⟩, rfl⟩, fun m q acc e s hi ⟨hP, ⟨r, e1, hr⟩, e2⟩ => ?_, fun acc e s ⟨hP, ⟨r, e1, hr⟩, e2⟩ => ?_⟩
    · obtain ⟨hj, rfl⟩ := rng_get _ _ _ _ hi
      have hrl := hr.1
      have hml : (r.map ftP).length = r.length := List.length_map ..
      subst e1 e2
      walk_at "fd"
      refine no_implicit_lambda% (Fn.mono (fn_law_bound s hP) (fun q s ⟨hP, a, e1, ha⟩ => ?_) fun _ _ _ h => h.elim)
      subst e1
      walk_at "fd"
      refine no_implicit_lambda% (Fn.mono (fn_law_bound s hP) (fun q s ⟨hP, b, e1, hb⟩ => ?_) fun _ _ _ h => h.elim)
      subst e1
      walk_at "fd"
      exact ⟨small_line (by omega), hP, ⟨r ++ [(a, b)], by rw [List.map_append]; rfl, snocR hr ⟨ha, hb⟩⟩, rfl⟩
    · rw [List.length_map, List.length_range] at hr
      subst e1 e2
      walk_at "fd"
      exact ⟨hP, r, rfl, hr⟩
  · with_reducible refine wp_comp ?_
    walk_at "fd"
    rename_i s2 d hs2 d0 d1
    refine x_rng1 (by omega) (by omega) ?_
    refine ⟨fun m acc e s => Pool s ∧ (∃ l : List Int, acc = iL l ∧ l.length = m) ∧ e = [.val (.ref 1), .val (.int n), .none, .none, .none], ⟨by assumption, ⟨[], rfl, rfl⟩, rfl⟩, fun m q acc e s hi ⟨hP, ⟨r, e1, hr⟩, e2⟩ => ?_, fun acc e s ⟨hP, ⟨l, e1, hr⟩, e2⟩ => ?_⟩
    · obtain ⟨hj, rfl⟩ := rng_get _ _ _ _ hi
      have hml := ints_len r
      subst e1 e2
      walk_at "fd"
      rename_i s3 d' hs3 d0' d1'
      exact ⟨small_line (by omega), hs3, ⟨r ++ [d'], (iL_app r [d']), by rw [List.length_append, hr]; rfl⟩, rfl⟩
    · subst e1 e2
      walk_at "fd"
      with_reducible refine wp_comp ?_
      walk_at "fd"
      refine x_rng1 (by omega) (by omega) ?_
      rw [Int.toNat_natCast]
      refine ⟨fun m acc e s => Pool s ∧ (∃ r : List Ft, acc = r.map ftP ∧ okR m r) ∧ e = [.val (.ref 1), .val (.int n), .none, .val (.lst (iL l)), .none], ⟨by assumption, ⟨[], rfl, rfl, fun f h => by cases h⟩, rfl⟩, fun m q acc e s hi ⟨hP, ⟨r, e1, hr⟩, e2⟩ => ?_, fun acc e s ⟨hP, ⟨r, e1, hr⟩, e2⟩ => ?_⟩
      · obtain ⟨hj, rfl⟩ := rng_get _ _ _ _ hi
        have hrl := hr.1
        have hml : (r.map ftP).length = r.length := List.length_map ..
        subst e1 e2
        walk_at "fd"
        refine ⟨_, in_intsL _ _ _, ?_⟩
        walk_at "fd"
        · refine no_implicit_lambda% (Fn.mono (fn_law_bound s hP) (fun q s ⟨hP, a, e1, ha⟩ => ?_) fun _ _ _ h => h.elim)
          subst e1
          walk_at "fd"
          refine no_implicit_lambda% (Fn.mono (fn_law_bound s hP) (fun q s ⟨hP, b, e1, hb⟩ => ?_) fun _ _ _ h => h.elim)
          subst e1
          walk_at "fd"
          exact ⟨small_line (by omega), hP, ⟨r ++ [(a, b)], by rw [List.map_append]; rfl, snocR hr ⟨ha, hb⟩⟩, rfl⟩
        · exact ⟨small_line (by omega), hP, ⟨r ++ [(some 0, some 0)], by rw [List.map_append]; rfl, snocR hr ok00⟩, rfl⟩
      · rw [List.length_map, List.length_range] at hr
        subst e1 e2
        walk_at "fd"
        exact ⟨hP, r, rfl, hr⟩
theorem fn_law_book (S : Stt) (hP : Pool S) (n : Nat) (h1 : 1 ≤ n) (hn : n ≤ 8) : Fn (den__law_book [.ref 1, .int n] S) (fun q s => Pool s ∧ ∃ bk, q = bkP bk ∧ okB n bk ∧ bk.length ≤ 8) noR := by
  unfold den__law_book
  with_reducible refine fn_run ?_ ?_
  exact rfl
  unfold body__law_book
  walk_at "fd"
  · rename_i s2 d hs2 d0 d1 hd
    have hf : ∃ f : Ft, okF f ∧ atI [PV.tup [.non, .int 0], .tup [.int 0, .non]] d = some (ftP f) := by
      rcases (show d = 0 ∨ d = 1 by omega) with rfl | rfl
      · exact ⟨(none, some 0), ⟨fun u h => (by cases h), fun u h => by cases h; decide⟩, rfl⟩
      · exact ⟨(some 0, none), ⟨fun u h => (by cases h; decide), fun u h => by cases h⟩, rfl⟩
    obtain ⟨f, hf, hfe⟩ := hf
    refine x_ix hfe ?_
    walk_at "fd"
    with_reducible refine wp_comp ?_
    walk_at "fd"
    refine x_rng1 (by omega) (by omega) ?_
    rw [Int.toNat_natCast]
    refine ⟨fun m acc e s => Pool s ∧ (∃ bk : List (List Ft), acc = bk.map rwP ∧ bk.length = m ∧ ∀ r ∈ bk, okR n r) ∧ e = [.val (.ref 1), .val (.int n), .val (.int d), .val (ftP f), .none, .none, .none], ⟨by assumption, ⟨[], rfl, rfl, fun f h => by cases h⟩, rfl⟩, fun m q acc e s hi ⟨hP, ⟨bk, e1, hb, hr⟩, e2⟩ => ?_, fun acc e s ⟨hP, ⟨bk, e1, hb, hr⟩, e2⟩ => ?_⟩
    · obtain ⟨hj, rfl⟩ := rng_get _ _ _ _ hi
      have hml : (bk.map rwP).length = bk.length := List.length_map ..
      subst e1 e2
      walk_at "fd"
      with_reducible refine wp_comp ?_
      walk_at "fd"
      refine x_rng1 (by omega) (by omega) ?_
      rw [Int.toNat_natCast]
      refine ⟨fun i acc e s => Pool s ∧ (∃ r : List Ft, acc = r.map ftP ∧ okR i r) ∧ e = [.val (.ref 1), .val (.int n), .val (.int d), .val (ftP f), .none, .val (.int m), .none], ⟨by assumption, ⟨[], rfl, rfl, fun f h => by cases h⟩, rfl⟩, fun i q acc e s hi ⟨hP, ⟨r, e1, hr⟩, e2⟩ => ?_, fun acc e s ⟨hP, ⟨r, e1, hr'⟩, e2⟩ => ?_⟩
      · obtain ⟨hj, rfl⟩ := rng_get _ _ _ _ hi
        have hrl := hr.1
        have hml : (r.map ftP).length = r.length := List.length_map ..
        subst e1 e2
        walk_at "fd"
        · exact ⟨small_line (by omega), hP, ⟨r ++ [f], by rw [List.map_append]; rfl, snocR hr hf⟩, rfl⟩
        · exact ⟨small_line (by omega), hP, ⟨r ++ [(some 0, some 0)], by rw [List.map_append]; rfl, snocR hr ok00⟩, rfl⟩
      · rw [List.length_map, List.length_range] at hr'
        subst e1 e2
        walk_at "fd"
        refine ⟨small_line (by omega), hP, ⟨bk ++ [r], by rw [List.map_append]; rfl, by rw [List.length_append, hb]; rfl, fun r' h => ?_⟩, rfl⟩
        rcases List.mem_append.mp h with q | q
        · exact hr r' q
        · have : r' = r := by simpa using q
          rw [this]
          exact hr'
    · rw [List.length_map, List.length_range] at hb
      subst e1 e2
      walk_at "fd"
      refine ⟨hP, bk, rfl, ⟨fun h => ?_, by omega, hr⟩, by omega⟩
      rw [h] at hb
      simp at hb
      omega
  · with_reducible refine wp_comp ?_
    walk_at "fd"
    rename_i s2 d hs2 d0 d1 hd s3 c hs3 c0 c1
    refine x_rng1 (by omega) (by omega) ?_
    refine ⟨fun m acc e s => Pool s ∧ (∃ bk : List (List Ft), acc = bk.map rwP ∧ bk.length = m ∧ ∀ r ∈ bk, okR n r) ∧ e = [.val (.ref 1), .val (.int n), .val (.int d), .none, .none, .none, .none], ⟨by assumption, ⟨[], rfl, rfl, fun f h => by cases h⟩, rfl⟩, fun m q acc e s hi ⟨hP, ⟨bk, e1, hb, hr⟩, e2⟩ => ?_, fun acc e s ⟨hP, ⟨bk, e1, hb, hr⟩, e2⟩ => ?_⟩
    · obtain ⟨hj, rfl⟩ := rng_get _ _ _ _ hi
      have hml : (bk.map rwP).length = bk.length := List.length_map ..
      subst e1 e2
      walk_at "fd"
      refine no_implicit_lambda% (Fn.mono (fn_law_row s hP n h1 hn) (fun q s ⟨hP, r, e1, h⟩ => ?_) fun _ _ _ h => h.elim)
      subst e1
      walk_at "fd"
      refine ⟨small_line (by omega), hP, ⟨bk ++ [r], by rw [List.map_append]; rfl, by rw [List.length_append, hb]; rfl, fun r' h' => ?_⟩, rfl⟩
      rcases List.mem_append.mp h' with q | q
      · exact hr r' q
      · have : r' = r := by simpa using q
        rw [this]
        exact h
    · rw [List.length_map, List.length_range] at hb
      subst e1 e2
      walk_at "fd"
      refine ⟨hP, bk, rfl, ⟨fun h => ?_, by omega, hr⟩, by omega⟩
      rw [h] at hb
      simp at hb
      omega
/-! ### the law's own walk -/
theorem brF_not (f g : Ft) : brF f g false = (f.1.isSome && (f.2.isSome && g.2.isSome)) := by
  unfold brF msB
  obtain ⟨a, b⟩ := f
  obtain ⟨c, d⟩ := g
  rw [if_neg (by decide)]
  cases b <;> cases d <;> rfl
theorem x_isNN {s : Stt} {a : Option Nat} {Q : PV → Prop} (h : Q (.bl a.isSome)) : ∃ w, pIsNot s (bdP a) .non = some w ∧ Q w := ⟨_, by cases a <;> rfl, h⟩
def onesB (r o : List Ft) (m : Nat) : List Int := ((List.range m).filter fun i => brF (r.getD i (none, none)) (o.getD i (none, none)) false).map fun _ => 1
theorem onesB_next {r o : List Ft} {m : Nat} : onesB r o (m + 1) = onesB r o m ++ (if brF (r.getD m (none, none)) (o.getD m (none, none)) false = true then [1] else []) := by
  unfold onesB
  rw [List.range_succ, List.filter_append, List.map_append]
  cases h : brF (r.getD m (none, none)) (o.getD m (none, none)) false
  · rw [List.filter_cons_of_neg (by rw [h]; decide)]
    rfl
  · rw [List.filter_cons_of_pos (p := fun i => brF (r.getD i (none, none)) (o.getD i (none, none)) false) h]
    rfl
theorem onesB_len (r o : List Ft) (m : Nat) : (onesB r o m).length ≤ m := by
  unfold onesB
  rw [List.length_map]
  exact Nat.le_trans (List.length_filter_le _ _) (by simp)
theorem onesB_nil {r o : List Ft} : (onesB r o r.length).isEmpty = !brP r o false := by
  unfold onesB brP
  rw [Bool.eq_iff_iff, List.isEmpty_iff, List.map_eq_nil_iff, List.filter_eq_nil_iff]
  simp only [Bool.not_eq_true', List.any_eq_false]
theorem fn_law_bearable (S : Stt) (n : Nat) (bk : List (List Ft)) (hb : okB n bk) (hn : n ≤ 8) : Fn (den__law_bearable [bkP bk] S) (fun q s => s = S ∧ q = .bl (brB bk false)) noR := by
  have hbm : (bk.map rwP).length = bk.length := List.length_map ..
  unfold den__law_bearable
  with_reducible refine fn_run ?_ ?_
  exact rfl
  unfold body__law_bearable
  walk_at "fss"
  with_reducible refine wp_for ?_
  walk_at "fss"
  refine ⟨fun m e s => s = S ∧ (∀ r ∈ bk.take m, ∀ o ∈ bk, brP r o false = true) ∧ ∃ x1 x2 x3 : Slot, e = [.val (bkP bk), x1, x2, x3, .none, .none], ⟨rfl, fun r h => (by cases h), _, _, _, rfl⟩, fun m q e s hi ⟨e1, h1, x1, x2, x3, e2⟩ => ?_, fun e s ⟨e1, h1, x1, x2, x3, e2⟩ => ?_⟩
  · obtain ⟨hm, rfl⟩ := map_get (d := []) hi
    have hrm : bk.getD m [] ∈ bk := by
      rw [List.getD_eq_getElem?_getD, List.getElem?_eq_getElem hm]
      exact List.getElem_mem hm
    have hnx : bk.take (m + 1) = bk.take m ++ [bk.getD m []] := take_next (by rw [List.getElem?_eq_getElem hm, List.getD_eq_getElem?_getD, List.getElem?_eq_getElem hm]; rfl)
    generalize bk.getD m [] = r at hrm hnx
    have hrl := (hb.2.2 r hrm).1
    subst e1 e2
    walk_at "fss"
    with_reducible refine wp_for ?_
    walk_at "fss"
    refine ⟨fun j e s' => s' = s ∧ (∀ o ∈ bk.take j, brP r o false = true) ∧ ∃ x2 x3 : Slot, e = [.val (bkP bk), .val (rwP r), x2, x3, .none, .none], ⟨rfl, fun r h => (by cases h), _, _, rfl⟩, fun j q e s' hi ⟨e1, h2, x2, x3, e2⟩ => ?_, fun e s' ⟨e1, h2, x2, x3, e2⟩ => ?_⟩
    · obtain ⟨hj, rfl⟩ := map_get (d := []) hi
      have hom : bk.getD j [] ∈ bk := by
        rw [List.getD_eq_getElem?_getD, List.getElem?_eq_getElem hj]
        exact List.getElem_mem hj
      have hnxo : bk.take (j + 1) = bk.take j ++ [bk.getD j []] := take_next (by rw [List.getElem?_eq_getElem hj, List.getD_eq_getElem?_getD, List.getElem?_eq_getElem hj]; rfl)
      generalize bk.getD j [] = o at hom hnxo
      have hol := (hb.2.2 o hom).1
      subst e1 e2
      walk_at "fss"
      with_reducible refine wp_comp ?_
      walk_at "fss"
      refine x_zipM rfl rfl ?_
      refine ⟨fun i acc e s => s = s' ∧ acc = iL (onesB r o i) ∧ e = [.val (bkP bk), .val (rwP r), .val (rwP o), x3, .none, .none], ⟨rfl, rfl, rfl⟩, fun i q acc e s hi ⟨e1, h1, e2⟩ => ?_, fun acc e s ⟨e1, h1, e2⟩ => ?_⟩
      · obtain ⟨f, g, hf, hg, rfl⟩ := zip_get2 hi
        obtain ⟨hi1, rfl⟩ := map_get (d := (none, none)) hf
        obtain ⟨hi2, rfl⟩ := map_get (d := (none, none)) hg
        have hnx2 := onesB_next (r := r) (o := o) (m := i)
        have hlen := onesB_len r o i
        rw [brF_not] at hnx2
        subst e1 e2 h1
        unfold ftP
        generalize r.getD i (none, none) = f at hnx2
        generalize o.getD i (none, none) = g at hnx2
        walk_at "fss"
        refine x_isNN ?_
        walk_at "fss"
        · rename_i c1
          refine x_isNN ?_
          walk_at "fss"
          · rename_i c2
            refine x_isNN ?_
            walk_at "fss"
            · rename_i c3
              refine ⟨by rw [ints_len]; exact small_line (by omega), rfl, ?_, rfl⟩
              rw [hnx2, c1, c2, c3, ← iL_app]
              rfl
            · rename_i c3
              refine ⟨rfl, ?_, rfl⟩
              rw [hnx2, c1, c2, c3, ← iL_app]
              exact (List.append_nil _).symm
          · rename_i c2 _
            refine ⟨rfl, ?_, rfl⟩
            rw [hnx2, c1, c2, ← iL_app]
            exact (List.append_nil _).symm
        · rename_i c1 _
          refine ⟨rfl, ?_, rfl⟩
          rw [hnx2, c1, ← iL_app]
          exact (List.append_nil _).symm
      · subst e1 e2 h1
        have hzl : ((r.map ftP).zip (o.map ftP)).length = r.length := by
          rw [List.length_zip, List.length_map, List.length_map]
          omega
        rw [List.length_map, hzl]
        walk_at "fss"
        have hp : eqv (.lst (iL (onesB r o r.length))) (.lst []) = !brP r o false := by
          rw [← onesB_nil]
          exact FS.eqv_nil _
        refine ⟨_, pEq_v (okd_ints _) rfl rfl rfl hp, ?_⟩
        cases hbp : brP r o false
        · walk_at "fss"
          refine ⟨rfl, congrArg PV.bl ?_⟩
          symm
          refine List.all_eq_false.mpr ⟨r, hrm, fun h => ?_⟩
          have := List.all_eq_true.mp h o hom
          rw [hbp] at this
          cases this
        · walk_at "fss"
          refine ⟨rfl, fun o' ho' => ?_, _, _, rfl⟩
          rw [hnxo] at ho'
          rcases List.mem_append.mp ho' with h | h
          · exact h2 o' h
          · rw [List.mem_singleton.mp h]
            exact hbp
    · subst e1 e2
      rw [hbm, List.take_of_length_le (Nat.le_refl _)] at h2
      refine ⟨rfl, fun r' hr' o ho => ?_, _, _, _, rfl⟩
      rw [hnx] at hr'
      rcases List.mem_append.mp hr' with h | h
      · exact h1 r' h o ho
      · rw [List.mem_singleton.mp h]
        exact h2 o ho
  · subst e1 e2
    rw [hbm, List.take_of_length_le (Nat.le_refl _)] at h1
    walk_at "fss"
    exact ⟨rfl, congrArg PV.bl (List.all_eq_true.mpr fun r hr => List.all_eq_true.mpr fun o ho => h1 r hr o ho).symm⟩
theorem fn_law_due (S : Stt) {p k : Int} {xs : List Int} {bk : List (List Ft)} (hg : Gnd p k xs) (hb : okB xs.length bk) : Fn (den__law_due [gv p k xs, bkP bk] S) (fun q s => s = S ∧ q = dueV (chE (.tup [gv p k xs, bkP bk]))) noR := by
  have hch := chE_gv hg hb
  have hn2 := hg.n2
  unfold den__law_due
  with_reducible refine fn_run ?_ ?_
  exact rfl
  unfold body__law_due
  walk_at "fss"
  · rename_i h1
    rw [hch, if_pos h1]
    exact ⟨rfl, (hV_c _).symm⟩
  · rename_i h1 h2
    rw [hch, if_neg (by omega), if_pos h2]
    exact ⟨rfl, (hV_c _).symm⟩
  · rename_i h1 h2
    rw [hch, if_neg (by omega), if_neg (by omega)]
    refine no_implicit_lambda% (Fn.mono (fn_law_bearable S xs.length bk hb hn2) (fun q s ⟨e1, e2⟩ => ?_) fun _ _ _ h => h.elim)
    subst e1 e2
    cases hc : brB bk false
    · walk_at "fss"
      exact ⟨rfl, (hV_h _).symm⟩
    · walk_at "fss"
      exact ⟨rfl, rfl⟩
theorem cprimes : ∀ p ∈ [(37 : Int), 41, 43, 65521, 2], prm p := by
  intro p hp
  simp only [List.mem_cons, List.not_mem_nil, or_false] at hp
  rcases hp with rfl | rfl | rfl | rfl | rfl
  all_goals exact prm_of (by decide) (by decide +kernel)
end
end I
end FS
set_option Elab.async false
set_option linter.all false
set_option pp.maxSteps 700
set_option maxRecDepth 100000
set_option maxHeartbeats 8000000
namespace FS
open PySem L2
namespace I
section
local macro_rules | `(tactic| walk_at "okm") => `(tactic| first | (exact okMul_l (by omega)) | (exact okMul_r (by omega)) | decide)
local macro_rules | `(tactic| walk_at "fsW") => `(tactic| first
  | (with_reducible refine wp_useL ?_)
  | (with_reducible refine wp_lenL ?_)
  | (with_reducible refine wp_ixL ?_)
  | (with_reducible refine wp_mthL ?_)
  | ((with_reducible refine wp_gtupC ?_ ?_); exact rfl)
  | ((with_reducible refine wp_gtupZ ?_ ?_); exact rfl))
local macro_rules | `(tactic| walk_at "fsE") => `(tactic| first
  | ((with_reducible show ∃ ys, _ = some (Slot.own ys) ∧ _); refine x_own1 rfl ?_)
  | ((with_reducible refine x_mul ?_ ?_); (walk_at "okm"))
  | ((with_reducible refine x_div ?_ ?_ ?_); omega; omega)
  | ((with_reducible refine x_mod ?_ ?_); omega)
  | ((with_reducible refine x_pow ?_ ?_); decide)
  | ((with_reducible show ∃ k, _ = some (PV.bl k) ∧ _); refine x_chain rfl ?_)
  | ((with_reducible show ∃ n ys, _ = PV.ref n ∧ _ = some (SO.lst ys) ∧ _); refine x_mR rfl rfl ?_)
  | ((with_reducible show ∃ w, pIx _ _ _ = some w ∧ _); refine x_ix rfl ?_)
  | ((with_reducible show ∃ w, fLen _ _ = some w ∧ _); refine x_len rfl ?_)
  | ((with_reducible show ∃ w, fInt _ _ = some w ∧ _); refine x_int rfl ?_)
  | ((with_reducible refine x_isi (w := .bl true) ?_ ?_); exact rfl)
  | ((with_reducible refine x_isi (w := .bl false) ?_ ?_); exact rfl)
  | ((with_reducible show ∃ w, fTuple _ _ = some w ∧ _); refine x_tupf rfl ?_)
  | ((with_reducible show ∃ w, fMin _ _ = some w ∧ _); refine x_minf rfl ?_)
  | ((with_reducible show ∃ w, fMax _ _ = some w ∧ _); refine x_maxf rfl ?_)
  | ((with_reducible show ∃ w, pCut _ _ _ _ = some w ∧ _); refine x_pcut rfl ?_)
  | ((with_reducible show ∃ w, itemsOf _ _ = some w ∧ _); refine x_itm rfl ?_)
  | ((with_reducible show ∃ w, itemsF _ = some w ∧ _); refine x_itF rfl ?_)
  | ((with_reducible show ∃ i, _ = PV.int i ∧ _); refine x_part rfl ?_)
  | ((with_reducible show ∃ p q, _ = [p, q] ∧ _); refine x_par rfl ?_)
  | ((with_reducible show ∃ n xs j m, _ = PV.ref n ∧ _ = PV.int j ∧ _ ∧ _ ∧ _); refine x_setR rfl rfl rfl rfl ?_))
local macro_rules | `(tactic| walk_at "fsR") => `(tactic| first
  | ((with_reducible show Wp _ _ _); (walk_at "fsW"))
  | ((with_reducible show Exists _); (walk_at "fsE"))
  | ((with_reducible show LkS _ _ _); first | refine lks_v rfl ?_ | refine lks_o rfl ?_)
  | ((with_reducible show _ ≤ sizeLine ∧ _); refine x_low rfl ?_)
  | ((with_reducible show List.length _ = _ ∧ _); refine x_num rfl ?_))
local macro_rules | `(tactic| walk_at "fs1") => `(tactic| first | (with_reducible refine run1 ?_) | (walk_at "fsR"))
local macro_rules | `(tactic| walk_at "fs0") => `(tactic| first | (with_reducible refine stp1 ?_) | (walk_at "fsR"))
local macro_rules | `(tactic| walk_at "fs") => `(tactic| repeat (walk_at "fs1"))
local macro_rules | `(tactic| walk_at "fsp") => `(tactic| (with_reducible refine x_spl ?_ ?_) <;> (intro h; first | (simp only [Bool.not_true, Bool.not_false, reduceCtorEq, decide_eq_true_eq, decide_eq_false_iff_not, Bool.not_eq_true', Bool.not_eq_false', Bool.and_eq_true, Int.not_lt, Int.not_le, Bool.or_eq_true, Bool.and_eq_false_iff, Bool.or_eq_false_iff, Bool.false_and, Bool.true_and, Bool.or_false, Bool.false_or, beq_self_eq_true, Bool.true_or, List.isEmpty_nil, List.isEmpty_cons] at h) | skip))
local macro_rules | `(tactic| walk_at "fss") => `(tactic| repeat' (first | (walk_at "fs1") | (walk_at "fsp")))
local macro_rules | `(tactic| walk_at "fd1") => `(tactic| first
  | ((with_reducible refine go_draw ?_ ?_ ?_ ?_); assumption; (first | omega | decide); (first | omega | decide); intro s' v hp hv0 hv1)
  | (walk_at "fs1") | (walk_at "fsp"))
local macro_rules | `(tactic| walk_at "fdi1") => `(tactic| first
  | ((with_reducible refine go_draw ?_ ?_ ?_ ?_); assumption; (first | omega | decide); (first | omega | decide); intro s' v hp hv0 hv1)
  | (walk_at "fs0") | (walk_at "fsp"))
local macro_rules | `(tactic| walk_at "fd") => `(tactic| repeat' (walk_at "fd1"))
local macro_rules | `(tactic| walk_at "fdi") => `(tactic| repeat' ((fail_if_success (with_reducible show Wp (dSeq (dIf _ _ _) _ _ _) _ _)); (walk_at "fdi1")))
/-! ### drawn pairs -/
local macro_rules | `(tactic| walk_at "fdx") => `(tactic| repeat' ((fail_if_success (with_reducible show Wp (dIfE _ _ _ _ _) _ _)); (fail_if_success (with_reducible show Wp (dSeq (dIf _ _ _) _ _ _) _ _)); (walk_at "fdi1")))
theorem notin_ints (S : Stt) (y : Int) (xs : List Int) : pNotInA S (.int y) (tupI xs) = some (.bl (!decide (y ∈ xs))) := by
  show (none : Option PV).or (pNotInT S (.int y) (tupI xs)) = _
  rw [Option.none_or]
  show (if (okd 60 (.int y) && okd 60 (tupI xs)) = true then some (PV.bl (!(iL xs).any fun z => eqv z (.int y))) else none) = _
  rw [okd_intsT, any_ints]
  rfl
theorem sIx_m1 (n d : Nat) : HT.sIx (n + 1) d (some (-1)) = n := by
  show (if (-1 : Int) < 0 then ((-1 : Int) + ((n + 1 : Nat) : Int)).toNat else min (-1 : Int).toNat (n + 1)) = n
  rw [if_pos (by decide)]
  omega
theorem cut_init (xs : List PV) (x : PV) : cutP (xs ++ [x]) none (some (-1)) = xs := by
  unfold cutP
  rw [HT.sIx_none, List.length_append, List.length_singleton, sIx_m1]
  simp
theorem fn_law_pair (S : Stt) (hP : Pool S) : Fn (den__law_pair [.ref 1] S) (fun q s => Pool s ∧ ∃ p k xs bk, q = .tup [gv p k xs, bkP bk] ∧ Gnd p k xs ∧ okB xs.length bk ∧ bk.length ≤ 8) noR := by
  unfold den__law_pair
  with_reducible refine fn_run ?_ ?_
  exact rfl
  unfold body__law_pair
  walk_at "fdx"
  refine no_implicit_lambda% (go_pick hP (by simp) (by decide) (fun s p hp hm => ?_))
  have hq : ∃ n, p = .int n ∧ n ∈ [(37 : Int), 41, 43, 65521, 2] := by
    simp only [List.mem_cons, List.not_mem_nil, or_false] at hm
    rcases hm with rfl | rfl | rfl | rfl | rfl | rfl <;> exact ⟨_, rfl, by decide⟩
  obtain ⟨p, rfl, hpl⟩ := hq
  have hpr := cprimes p hpl
  have hp1 := hpr.1
  have hp2 := hpr.2.1
  obtain ⟨n, rfl⟩ : ∃ n : Nat, p = n := ⟨p.toNat, by omega⟩
  walk_at "fdx"
  rename_i s1 v hs1 v0 v1
  obtain ⟨c, hc, c1, c2, c3⟩ : ∃ c : Nat, (if 1 + v < (n : Int) + 1 then 1 + v else (n : Int) + 1) = c ∧ 1 ≤ c ∧ c ≤ 4 ∧ c ≤ n + 1 := ⟨(if 1 + v < (n : Int) + 1 then 1 + v else (n : Int) + 1).toNat, by split <;> omega, by split <;> omega, by split <;> omega, by split <;> omega⟩
  obtain ⟨m, hm, m1, m2, m3⟩ : ∃ m : Nat, (if 8 < (n : Int) + 1 then 8 else (n : Int) + 1) = m ∧ m ≤ 8 ∧ m ≤ n + 1 ∧ c ≤ m := ⟨(if 8 < (n : Int) + 1 then 8 else (n : Int) + 1).toNat, by split <;> omega, by split <;> omega, by split <;> omega, by split <;> omega⟩
  rw [hc]
  refine no_implicit_lambda% (Wp.mono' (fun q e s => Pool s ∧ e = [.val (.ref 1), .val (.int n), .val (.int c), .none] ∧ ∃ xs : List Int, q = tupI xs ∧ xs.length = c ∧ (∀ x ∈ xs, 0 ≤ x ∧ x ≤ n) ∧ xs.Nodup) (fun _ _ _ _ => False) ?_ (fun q e s2 ⟨hs2, e1, xs, e2, q1, q2, q3⟩ => ?_) (fun _ _ _ _ h => False.elim h))
  · walk_at "fd"
    · rename_i hc1
      rw [hm]
      refine no_implicit_lambda% (Fn.mono (fn_turned s1 hs1 m (by omega)) (fun q s ⟨hP, l, e1, l1, l2, l3⟩ => ?_) fun _ _ _ h => h.elim)
      subst e1
      have hx : l[0]? = some (l[0]'(by omega)) := List.getElem?_eq_getElem (by omega)
      have hr := l3 _ (List.mem_of_getElem? hx)
      generalize l[0]'(by omega) = x at hx hr
      walk_at "fd"
      refine x_ix (ints_at (i := 0) hx) ?_
      walk_at "fd"
      refine ⟨hP, rfl, [x], rfl, by show 1 = c; omega, fun y hy => ?_, by simp⟩
      rw [List.mem_singleton.mp hy]
      omega
    · rename_i hc1
      rw [hm]
      refine no_implicit_lambda% (Fn.mono (fn_turned s1 hs1 m (by omega)) (fun q s ⟨hP, l, e1, l1, l2, l3⟩ => ?_) fun _ _ _ h => h.elim)
      subst e1
      walk_at "fd"
      refine ⟨hP, rfl, l.take c, by rw [cut_to, ints_take], by rw [List.length_take]; omega, fun y hy => ?_, l2.sublist (List.take_sublist _ _)⟩
      have := l3 y (List.mem_of_mem_take hy)
      omega
  subst e1 e2
  show Wp _ _ _
  walk_at "fdx"
  with_reducible refine wp_seq ?_
  refine no_implicit_lambda% (Wp.mono' (fun f e s => f = .next ∧ Pool s ∧ ∃ xs : List Int, e = [.val (.ref 1), .val (.int n), .val (.int c), .val (tupI xs)] ∧ xs.length = c ∧ (∀ x ∈ xs, 0 ≤ x ∧ x ≤ n) ∧ xs.Nodup) (fun _ _ _ _ => False) ?_ (fun f e s3 ⟨e1, hs3, ys, e2, r1, r2, r3⟩ => ?_) (fun _ _ _ _ h => False.elim h))
  · walk_at "fd"
    refine ⟨_, notin_ints _ _ _, ?_⟩
    walk_at "fd"
    · rename_i hni s4 z hs4 z0 z1 hz
      obtain ⟨ys, y, rfl⟩ : ∃ ys y, xs = ys ++ [y] := ⟨xs.dropLast, xs.getLast (by intro h; rw [h] at q1; simp at q1; omega), (List.dropLast_concat_getLast _).symm⟩
      have hyl : ys.length + 1 = c := by simpa using q1
      have hnd := List.nodup_append.mp q3
      rw [show cutP (iL (ys ++ [y])) none (some (-1)) = iL ys from by rw [← iL_app]; exact cut_init _ _]
      refine x_addT (small2 (by rw [ints_len]; show _ + 1 < _; omega)) ?_
      refine ⟨rfl, hs4, ys ++ [(n : Int)], by rw [show tupI (ys ++ [(n : Int)]) = .tup (iL ys ++ [.int n]) from by unfold tupI; rw [← iL_app]; rfl]; rfl, by simpa using q1, fun x hx => ?_, ?_⟩
      · rcases List.mem_append.mp hx with h | h
        · exact q2 x (List.mem_append_left _ h)
        · rw [List.mem_singleton.mp h]
          omega
      · refine List.nodup_append.mpr ⟨hnd.1, by simp, fun a ha b hb e => ?_⟩
        rw [List.mem_singleton.mp hb] at e
        rw [e] at ha
        exact hni (List.mem_append_left _ ha)
    all_goals exact ⟨rfl, by assumption, xs, rfl, q1, q2, q3⟩
  subst e1 e2
  walk_at "fd"
  rename_i s4 z hs4 z0 z1
  refine no_implicit_lambda% (Fn.mono (fn_law_book s4 hs4 c c1 (by omega)) (fun q s ⟨hP, bk, e1, hb, hs8⟩ => ?_) fun _ _ _ h => h.elim)
  subst e1
  walk_at "fd"
  exact ⟨hP, n, 1 + z, ys, bk, rfl, ⟨hpr, by omega, by omega, by omega, by omega, r2, r3⟩, by rw [r1]; exact hb, hs8⟩
end
end I
end FS
set_option Elab.async false
set_option linter.all false
set_option pp.maxSteps 700
set_option maxRecDepth 100000
set_option maxHeartbeats 8000000
namespace FS
open PySem L2
namespace I
section
local macro_rules | `(tactic| walk_at "okm") => `(tactic| first | (exact okMul_l (by omega)) | (exact okMul_r (by omega)) | decide)
local macro_rules | `(tactic| walk_at "fsW") => `(tactic| first
  | (with_reducible refine wp_useL ?_)
  | (with_reducible refine wp_lenL ?_)
  | (with_reducible refine wp_ixL ?_)
  | (with_reducible refine wp_mthL ?_)
  | ((with_reducible refine wp_gtupC ?_ ?_); exact rfl)
  | ((with_reducible refine wp_gtupZ ?_ ?_); exact rfl))
local macro_rules | `(tactic| walk_at "fsE") => `(tactic| first
  | ((with_reducible show ∃ ys, _ = some (Slot.own ys) ∧ _); refine x_own1 rfl ?_)
  | ((with_reducible refine x_mul ?_ ?_); (walk_at "okm"))
  | ((with_reducible refine x_div ?_ ?_ ?_); omega; omega)
  | ((with_reducible refine x_mod ?_ ?_); omega)
  | ((with_reducible refine x_pow ?_ ?_); decide)
  | ((with_reducible show ∃ k, _ = some (PV.bl k) ∧ _); refine x_chain rfl ?_)
  | ((with_reducible show ∃ n ys, _ = PV.ref n ∧ _ = some (SO.lst ys) ∧ _); refine x_mR rfl rfl ?_)
  | ((with_reducible show ∃ w, pIx _ _ _ = some w ∧ _); refine x_ix rfl ?_)
  | ((with_reducible show ∃ w, fLen _ _ = some w ∧ _); refine x_len rfl ?_)
  | ((with_reducible show ∃ w, fInt _ _ = some w ∧ _); refine x_int rfl ?_)
  | ((with_reducible refine x_isi (w := .bl true) ?_ ?_); exact rfl)
  | ((with_reducible refine x_isi (w := .bl false) ?_ ?_); exact rfl)
  | ((with_reducible show ∃ w, fTuple _ _ = some w ∧ _); refine x_tupf rfl ?_)
  | ((with_reducible show ∃ w, fMin _ _ = some w ∧ _); refine x_minf rfl ?_)
  | ((with_reducible show ∃ w, fMax _ _ = some w ∧ _); refine x_maxf rfl ?_)
  | ((with_reducible show ∃ w, pCut _ _ _ _ = some w ∧ _); refine x_pcut rfl ?_)
  | ((with_reducible show ∃ w, itemsOf _ _ = some w ∧ _); refine x_itm rfl ?_)
  | ((with_reducible show ∃ w, itemsF _ = some w ∧ _); refine x_itF rfl ?_)
  | ((with_reducible show ∃ i, _ = PV.int i ∧ _); refine x_part rfl ?_)
  | ((with_reducible show ∃ p q, _ = [p, q] ∧ _); refine x_par rfl ?_)
  | ((with_reducible show ∃ n xs j m, _ = PV.ref n ∧ _ = PV.int j ∧ _ ∧ _ ∧ _); refine x_setR rfl rfl rfl rfl ?_))
local macro_rules | `(tactic| walk_at "fsR") => `(tactic| first
  | ((with_reducible show Wp _ _ _); (walk_at "fsW"))
  | ((with_reducible show Exists _); (walk_at "fsE"))
  | ((with_reducible show LkS _ _ _); first | refine lks_v rfl ?_ | refine lks_o rfl ?_)
  | ((with_reducible show _ ≤ sizeLine ∧ _); refine x_low rfl ?_)
  | ((with_reducible show List.length _ = _ ∧ _); refine x_num rfl ?_))
local macro_rules | `(tactic| walk_at "fs1") => `(tactic| first | (with_reducible refine run1 ?_) | (walk_at "fsR"))
local macro_rules | `(tactic| walk_at "fs0") => `(tactic| first | (with_reducible refine stp1 ?_) | (walk_at "fsR"))
local macro_rules | `(tactic| walk_at "fs") => `(tactic| repeat (walk_at "fs1"))
local macro_rules | `(tactic| walk_at "fsp") => `(tactic| (with_reducible refine x_spl ?_ ?_) <;> (intro h; first | (simp only [Bool.not_true, Bool.not_false, reduceCtorEq, decide_eq_true_eq, decide_eq_false_iff_not, Bool.not_eq_true', Bool.not_eq_false', Bool.and_eq_true, Int.not_lt, Int.not_le, Bool.or_eq_true, Bool.and_eq_false_iff, Bool.or_eq_false_iff, Bool.false_and, Bool.true_and, Bool.or_false, Bool.false_or, beq_self_eq_true, Bool.true_or, List.isEmpty_nil, List.isEmpty_cons] at h) | skip))
local macro_rules | `(tactic| walk_at "fss") => `(tactic| repeat' (first | (walk_at "fs1") | (walk_at "fsp")))
local macro_rules | `(tactic| walk_at "fd1") => `(tactic| first
  | ((with_reducible refine go_draw ?_ ?_ ?_ ?_); assumption; (first | omega | decide); (first | omega | decide); intro s' v hp hv0 hv1)
  | (walk_at "fs1") | (walk_at "fsp"))
local macro_rules | `(tactic| walk_at "fdi1") => `(tactic| first
  | ((with_reducible refine go_draw ?_ ?_ ?_ ?_); assumption; (first | omega | decide); (first | omega | decide); intro s' v hp hv0 hv1)
  | (walk_at "fs0") | (walk_at "fsp"))
local macro_rules | `(tactic| walk_at "fd") => `(tactic| repeat' (walk_at "fd1"))
local macro_rules | `(tactic| walk_at "fdi") => `(tactic| repeat' ((fail_if_success (with_reducible show Wp (dSeq (dIf _ _ _) _ _ _) _ _)); (walk_at "fdi1")))
/-! ### drawn faults -/
theorem chE_g {g b : PV} {i : Int} (h : gdE g = some i) : chE (.tup [g, b]) = er "BadGround" i := by rw [chE_eq, h]
theorem chE_b {g b : PV} {c : Str} {i : Int} (h : gdE g = none) (h2 : bkE (shN g) b = some (c, i)) : chE (.tup [g, b]) = er c i := by rw [chE_eq, h, h2]
theorem thb_pair {a b : PV} (h1 : thb a = true) (h2 : thb b = true) : thb (.tup [a, b]) = true := by simp [thb, thbs, h1, h2]
theorem thb_three {a b c : PV} (h1 : thb a = true) (h2 : thb b = true) (h3 : thb c = true) : thb (.tup [a, b, c]) = true := by simp [thb, thbs, h1, h2, h3]
theorem okd_pair {k : Nat} {a b : PV} (h1 : okd k a = true) (h2 : okd k b = true) : okd (k + 1) (.tup [a, b]) = true := by simp [okd, h1, h2]
theorem okd_three {k : Nat} {a b c : PV} (h1 : okd k a = true) (h2 : okd k b = true) (h3 : okd k c = true) : okd (k + 1) (.tup [a, b, c]) = true := by simp [okd, h1, h2, h3]
theorem okd_one {k : Nat} {a : PV} (h1 : okd k a = true) : okd (k + 1) (.tup [a]) = true := by simp [okd, h1]
theorem thb_one {a : PV} (h1 : thb a = true) : thb (.tup [a]) = true := by simp [thb, thbs, h1]
theorem gv_thb (p k : Int) (xs : List Int) : thb (gv p k xs) = true := thb_three rfl rfl (ints_thb xs)
theorem gv_okd (p k : Int) (xs : List Int) (m : Nat) : okd (m + 2) (gv p k xs) = true := okd_three rfl rfl (okd_intsT m xs)
theorem bk_thb (bk : List (List Ft)) : thb (bkP bk) = true := rws_thb bk
theorem prm_no {n : Int} (h : n < 2 ∨ 65521 < n) : isP (.int n) = false := by
  have : ¬ prm n := fun z => by
    have := z.1
    have := z.2.1
    omega
  simp [isP, this]
theorem prm_4 : isP (.int 4) = false := by
  have : ¬ prm 4 := fun z => z.2.2 2 (by decide) (by decide) (by decide)
  simp [isP, this]
/-- a thing that is no charter, and what is due of it -/
def WrongC (q : PV) : Prop := ∃ t c i, q = .tup [t, dueV (some (c, i))] ∧ thb t = true ∧ okd 30 t = true ∧ chE t = some (c, i)
theorem shN_gv (p k : Int) (xs : List Int) : shN (gv p k xs) = xs.length := ints_len xs
theorem cut_one (x : PV) (r : List PV) : cutP (x :: r) none (some (1 : Int)) = [x] := by
  have := cut_to (x :: r) 1
  rw [show ((1 : Nat) : Int) = 1 from rfl] at this
  rw [this]
  rfl
theorem cut_tail (x : PV) (r : List PV) : cutP (x :: r) (some (1 : Int)) none = r := by
  have := cut_from (x :: r) 1
  rw [show ((1 : Nat) : Int) = 1 from rfl] at this
  rw [this]
  rfl
section
variable {p k : Int} {xs : List Int} {bk : List (List Ft)} (hg : Gnd p k xs) (hb : okB xs.length bk)
include hg hb
theorem fn_law_wrong (S : Stt) (hP : Pool S) (hs8 : bk.length ≤ 8) : Fn (den__law_wrong [.ref 1, gv p k xs, bkP bk] S) (fun q s => Pool s ∧ WrongC q) noR := by
  have hgd := gdE_gnd hg
  have hpr : isP (.int p) = true := by simp [isP, hg.pr]
  have hkw : isW 1 12 (.int k) = true := by simp [isW, hg.k1, hg.k2]
  have hn2 := hg.n2
  have hbl := hb.2.1
  have hb1 : 1 ≤ bk.length := List.length_pos_iff.mpr hb.1
  have hbm : (bk.map rwP).length = bk.length := List.length_map ..
  unfold den__law_wrong
  with_reducible refine fn_run ?_ ?_
  exact rfl
  unfold body__law_wrong
  walk_at "fd"
  · refine no_implicit_lambda% (go_pick (by assumption) (by simp) (by simp) (fun s t hp hm => ?_))
    walk_at "fd"
    refine ⟨hp, t, "BadCharter", 0, by rw [show dueV (some (("BadCharter" : Str), (0 : Int))) = .tup [.str "charter", .int 0] from hV_c _] <;> rfl, ?_⟩
    simp only [List.mem_cons, List.not_mem_nil, or_false] at hm
    rcases hm with rfl | rfl | rfl | rfl | rfl
    · exact ⟨rfl, rfl, rfl⟩
    · exact ⟨rfl, rfl, rfl⟩
    · exact ⟨thb_one (gv_thb _ _ _), okd_one (gv_okd _ _ _ _), rfl⟩
    · exact ⟨thb_three (gv_thb _ _ _) (bk_thb _) (bk_thb _), okd_three (gv_okd _ _ _ _) (rws_okd 25 _) (rws_okd 25 _), rfl⟩
    · exact ⟨rfl, rfl, rfl⟩
  · refine no_implicit_lambda% (go_pick (by assumption) (by simp) (by simp) (fun s t hp hm => ?_))
    walk_at "fd"
    have hh : thb t = true ∧ okd 29 t = true ∧ gdE t = some (-1) := by
      simp only [List.mem_cons, List.not_mem_nil, or_false] at hm
      rcases hm with rfl | rfl | rfl | rfl <;> exact ⟨rfl, rfl, rfl⟩
    exact ⟨hp, .tup [t, bkP bk], "BadGround", -1, by rw [show dueV (some (("BadGround" : Str), (-1 : Int))) = .tup [.str "ground", .int (-1)] from hV_g _] <;> rfl, thb_pair hh.1 (bk_thb _), okd_pair hh.2.1 (rws_okd 25 _), chE_g hh.2.2⟩
  · refine no_implicit_lambda% (go_pick (by assumption) (by simp) (by simp) (fun s t hp hm => ?_))
    walk_at "fd"
    have hh : thb t = true ∧ okd 28 t = true ∧ isP t = false := by
      simp only [List.mem_cons, List.not_mem_nil, or_false] at hm
      rcases hm with rfl | rfl | rfl | rfl | rfl
      · exact ⟨rfl, rfl, prm_4⟩
      · exact ⟨rfl, rfl, prm_no (.inr (by decide))⟩
      · exact ⟨rfl, rfl, rfl⟩
      · exact ⟨rfl, rfl, rfl⟩
      · exact ⟨rfl, rfl, prm_no (.inl (by decide))⟩
    refine x_addT (xs := [t]) (ys := [.int k, tupI xs]) (Nat.le_of_ble_eq_true rfl) ?_
    walk_at "fd"
    exact ⟨hp, .tup [.tup [t, .int k, tupI xs], .tup []], "BadGround", 0, by rw [show dueV (some (("BadGround" : Str), (0 : Int))) = .tup [.str "ground", .int 0] from hV_g _] <;> rfl, thb_pair (thb_three hh.1 rfl (ints_thb _)) rfl, okd_pair (okd_three hh.2.1 rfl (okd_intsT 27 xs)) rfl, chE_g (by rw [gdE_eq, if_pos hh.2.2])⟩
  · refine no_implicit_lambda% (go_pick (by assumption) (by simp) (by simp) (fun s t hp hm => ?_))
    walk_at "fd"
    have hh : thb t = true ∧ okd 28 t = true ∧ isW 1 12 t = false := by
      simp only [List.mem_cons, List.not_mem_nil, or_false] at hm
      rcases hm with rfl | rfl | rfl | rfl <;> exact ⟨rfl, rfl, rfl⟩
    exact ⟨hp, .tup [.tup [.int p, t, tupI xs], .non], "BadGround", 1, by rw [show dueV (some (("BadGround" : Str), (1 : Int))) = .tup [.str "ground", .int 1] from hV_g _] <;> rfl, thb_pair (thb_three rfl hh.1 (ints_thb _)) rfl, okd_pair (okd_three rfl hh.2.1 (okd_intsT 27 xs)) rfl, chE_g (by rw [gdE_eq, if_neg (by rw [hpr]; decide), if_pos hh.2.2])⟩
  · obtain ⟨x0, r, hxr⟩ : ∃ x0 r, xs = x0 :: r := by
      cases xs with
      | nil => exact absurd hg.n1 (by simp)
      | cons a r => exact ⟨a, r, rfl⟩
    rw [show cutP (iL xs) none (some (1 : Int)) = [.int x0] from by rw [hxr]; exact cut_one _ _]
    refine x_addT (xs := iL xs) (ys := [.int x0]) (small2 (by rw [ints_len]; show _ + 1 < _; omega)) ?_
    walk_at "fd"
    refine no_implicit_lambda% (go_pick (by assumption) (by simp) (by simp) (fun s t hp hm => ?_))
    walk_at "fd"
    have ex : iL xs ++ [PV.int x0] = iL (xs ++ [x0]) := iL_app _ [x0]
    rw [ex] at hm
    have hh : thb t = true ∧ okd 28 t = true ∧ isPts p t = false := by
      simp only [List.mem_cons, List.not_mem_nil, or_false] at hm
      rcases hm with rfl | rfl | rfl | rfl
      · exact ⟨rfl, rfl, rfl⟩
      · refine ⟨rfl, rfl, ?_⟩
        show (decide (1 ≤ 1 ∧ 1 ≤ 8) && ((isW 0 p (.int (p + 1)) && true) && _)) = false
        rw [show isW 0 p (.int (p + 1)) = false from by simp [isW]; omega]
        rfl
      · refine ⟨ints_thb _, okd_intsT 27 _, ?_⟩
        have h4 : (iL (xs ++ [x0])).map unI = xs ++ [x0] := by
          unfold iL
          rw [List.map_map]
          exact List.map_id _
        show (decide (1 ≤ (iL (xs ++ [x0])).length ∧ (iL (xs ++ [x0])).length ≤ 8) && ((iL (xs ++ [x0])).all (isW 0 p) && decide ((iL (xs ++ [x0])).map unI).Nodup)) = false
        have hnn : ¬ (xs ++ [x0]).Nodup := fun h => (List.nodup_append.mp h).2.2 x0 (by rw [hxr]; simp) x0 (by simp) rfl
        rw [h4, decide_eq_false hnn, Bool.and_false, Bool.and_false]
      · exact ⟨rfl, rfl, rfl⟩
    exact ⟨hp, .tup [.tup [.int p, .int k, t], bkP bk], "BadGround", 2, by rw [show dueV (some (("BadGround" : Str), (2 : Int))) = .tup [.str "ground", .int 2] from hV_g _] <;> rfl, thb_pair (thb_three rfl rfl hh.1) (bk_thb _), okd_pair (okd_three rfl rfl hh.2.1) (rws_okd 25 _), chE_g (by rw [gdE_eq, if_neg (by rw [hpr]; decide), if_neg (by rw [hkw]; decide), show unI (PV.int p) = p from rfl, if_pos hh.2.2])⟩
  · refine no_implicit_lambda% (go_pick (by assumption) (by simp) (by simp) (fun s t hp hm => ?_))
    walk_at "fd"
    have hh : thb t = true ∧ okd 29 t = true ∧ bkE xs.length t = er "BadBook" (-1) := by
      simp only [List.mem_cons, List.not_mem_nil, or_false] at hm
      rcases hm with rfl | rfl | rfl <;> exact ⟨rfl, rfl, rfl⟩
    exact ⟨hp, .tup [gv p k xs, t], "BadBook", -1, by rw [show dueV (some (("BadBook" : Str), (-1 : Int))) = .tup [.str "book", .int (-1)] from hV_b _] <;> rfl, thb_pair (gv_thb _ _ _) hh.1, okd_pair (gv_okd _ _ _ _) hh.2.1, chE_b hgd (by rw [shN_gv]; exact hh.2.2)⟩
  · obtain ⟨r0, rs, hbr⟩ : ∃ r0 rs, bk = r0 :: rs := by
      cases bk with
      | nil => exact absurd rfl hb.1
      | cons a r => exact ⟨a, r, rfl⟩
    rw [show cutP (bk.map rwP) none (some (1 : Int)) = [rwP r0] from by rw [hbr]; exact cut_one _ _]
    refine x_mulT (by simp) ⟨by decide, by decide, Nat.le_of_ble_eq_true rfl, Nat.le_of_ble_eq_true rfl⟩ ?_
    walk_at "fd"
    have ef : (List.replicate (25 : Int).toNat [rwP r0]).flatten = List.replicate 25 (rwP r0) := rfl
    rw [ef]
    refine ⟨by assumption, .tup [gv p k xs, .tup (List.replicate 25 (rwP r0))], "TooMany", 25, by rw [show dueV (some (("TooMany" : Str), (25 : Int))) = .tup [.str "many", .int 25] from hV_m _] <;> rfl, thb_pair (gv_thb _ _ _) (thbs_of fun x hx => ?_), okd_pair (gv_okd _ _ _ _) (okd_tup fun x hx => ?_), chE_b hgd (bkE_many (by simp))⟩
    · rw [List.eq_of_mem_replicate hx]
      exact rw_thb _
    · rw [List.eq_of_mem_replicate hx]
      exact rw_okd 25 _
  · rename_i s2 v hs v0 v1
    obtain ⟨v, rfl⟩ : ∃ u : Nat, v = u := ⟨v.toNat, by omega⟩
    have hv : v < bk.length := by omega
    have hrm : bk.getD v [] ∈ bk := by
      rw [List.getD_eq_getElem?_getD, List.getElem?_eq_getElem hv]
      exact List.getElem_mem hv
    have hat := map_at (d := []) rwP hv
    generalize bk.getD v [] = r at hrm hat
    obtain ⟨hrl, hrf⟩ := hb.2.2 r hrm
    have hn1 := hg.n1
    obtain ⟨f0, r', rfl⟩ : ∃ f0 r', r = f0 :: r' := by
      cases r with
      | nil => rw [List.length_nil] at hrl; omega
      | cons a r => exact ⟨a, r, rfl⟩
    rw [List.length_cons] at hrl
    have hrl' : (r'.map ftP).length = r'.length := List.length_map ..
    have hcut : cutP ((f0 :: r').map ftP) (some (1 : Int)) none = r'.map ftP := cut_tail _ _
    refine x_ix hat ?_
    walk_at "fd"
    refine x_addT (xs := (f0 :: r').map ftP) (ys := [.tup [.int 0, .int 0]]) (small2 (by rw [List.length_map, List.length_cons]; show _ + 1 < _; omega)) ?_
    walk_at "fd"
    refine x_ix hat ?_
    unfold rwP
    walk_at "fd"
    rw [hcut]
    refine x_addT (xs := [.tup [.int 65, .int 0]]) (ys := r'.map ftP) (small2 (by rw [hrl']; show 1 + _ < _; omega)) ?_
    walk_at "fd"
    refine x_ix hat ?_
    unfold rwP
    walk_at "fd"
    rw [hcut]
    refine x_addT (xs := [.tup [.int 0, .int (-1)]]) (ys := r'.map ftP) (small2 (by rw [hrl']; show 1 + _ < _; omega)) ?_
    walk_at "fd"
    refine x_ix hat ?_
    unfold rwP
    walk_at "fd"
    rw [hcut]
    refine x_addT (xs := [.tup [.int 0]]) (ys := r'.map ftP) (small2 (by rw [hrl']; show 1 + _ < _; omega)) ?_
    walk_at "fd"
    refine no_implicit_lambda% (go_pick (by assumption) (by simp) (by simp) (fun s t hp hm => ?_))
    walk_at "fd"
    rw [cut_to]
    refine x_addT (xs := (bk.map rwP).take v) (ys := [t]) (small2 (by rw [List.length_take]; show _ + 1 < _; omega)) ?_
    walk_at "fd"
    rw [show ((v : Int) + 1) = ((v + 1 : Nat) : Int) by omega, cut_from]
    refine x_addT (xs := (bk.map rwP).take v ++ [t]) (ys := (bk.map rwP).drop (v + 1)) (small2 (by rw [List.length_append, List.length_take, List.length_drop]; show _ + 1 + _ < _; omega)) ?_
    walk_at "fd"
    have hr'thb : ∀ x ∈ r'.map ftP, thb x = true := fun x hx => by
      obtain ⟨f, _, rfl⟩ := List.mem_map.mp hx
      exact ft_thb f
    have hr'okd : ∀ x ∈ r'.map ftP, okd 27 x = true := fun x hx => by
      obtain ⟨f, _, rfl⟩ := List.mem_map.mp hx
      exact ft_okd 25 f
    have hh : thb t = true ∧ okd 28 t = true ∧ isRow xs.length t = false := by
      simp only [List.mem_cons, List.not_mem_nil, or_false] at hm
      have row : ∀ a : PV, thb a = true → okd 27 a = true → isFate a = false → thb (.tup ([a] ++ r'.map ftP)) = true ∧ okd 28 (.tup ([a] ++ r'.map ftP)) = true ∧ isRow xs.length (.tup ([a] ++ r'.map ftP)) = false := fun a h1 h2 h3 => by
        refine ⟨thbs_of fun x hx => ?_, okd_tup fun x hx => ?_, ?_⟩
        · rcases List.mem_append.mp hx with h | h
          · rw [List.mem_singleton.mp h]
            exact h1
          · exact hr'thb x h
        · rcases List.mem_append.mp hx with h | h
          · rw [List.mem_singleton.mp h]
            exact h2
          · exact hr'okd x h
        · show (decide (([a] ++ r'.map ftP).length = xs.length) && (isFate a && (r'.map ftP).all isFate)) = false
          rw [h3, Bool.false_and, Bool.and_false]
      rcases hm with rfl | rfl | rfl | rfl | rfl
      · exact ⟨rfl, rfl, rfl⟩
      · refine ⟨thbs_of fun x hx => ?_, okd_tup fun x hx => ?_, ?_⟩
        · rcases List.mem_append.mp hx with h | h
          · obtain ⟨f, _, rfl⟩ := List.mem_map.mp h
            exact ft_thb f
          · rw [List.mem_singleton.mp h]
            rfl
        · rcases List.mem_append.mp hx with h | h
          · obtain ⟨f, _, rfl⟩ := List.mem_map.mp h
            exact ft_okd 25 f
          · rw [List.mem_singleton.mp h]
            rfl
        · show (decide (((f0 :: r').map ftP ++ [PV.tup [.int 0, .int 0]]).length = xs.length) && _) = false
          rw [decide_eq_false (by rw [List.length_append, List.length_map, List.length_cons, List.length_singleton]; omega), Bool.false_and]
      · exact row _ rfl rfl rfl
      · exact row _ rfl rfl rfl
      · exact row _ rfl rfl rfl
    have htl : ((bk.map rwP).take v).length = v := by rw [List.length_take]; omega
    have hmem : ∀ x ∈ (bk.map rwP).take v ++ [t] ++ (bk.map rwP).drop (v + 1), thb x = true ∧ okd 28 x = true := fun x hx => by
      have key : ∀ x ∈ bk.map rwP, thb x = true ∧ okd 28 x = true := fun x hx => by
        obtain ⟨r, _, rfl⟩ := List.mem_map.mp hx
        exact ⟨rw_thb r, rw_okd 25 r⟩
      rcases List.mem_append.mp hx with h | h
      · rcases List.mem_append.mp h with h | h
        · exact key x (List.mem_of_mem_take h)
        · rw [List.mem_singleton.mp h]
          exact ⟨hh.1, hh.2.1⟩
      · exact key x (List.mem_of_mem_drop h)
    refine ⟨hp, .tup [gv p k xs, .tup ((bk.map rwP).take v ++ [t] ++ (bk.map rwP).drop (v + 1))], "BadBook", (v : Nat), by rw [show dueV (some (("BadBook" : Str), ((v : Nat) : Int))) = .tup [.str "book", .int (v : Nat)] from hV_b _] <;> rfl, thb_pair (gv_thb _ _ _) (thbs_of fun x hx => (hmem x hx).1), okd_pair (gv_okd _ _ _ _) (okd_tup fun x hx => (hmem x hx).2), chE_b hgd ?_⟩
    rw [shN_gv]
    refine bkE_row (i := v) (a := t) (by simp) ?_ ?_ hh.2.2 ?_
    · rw [List.length_append, List.length_append, htl, List.length_drop, List.length_singleton]
      omega
    · rw [List.append_assoc, List.getElem?_append_right (by omega), htl, Nat.sub_self]
      rfl
    · rw [List.append_assoc, List.take_append_of_le_length (by omega), List.take_take, Nat.min_self]
      exact List.all_eq_true.mpr fun x hx => List.all_eq_true.mp (rws_is hb) x (List.mem_of_mem_take hx)
end
end
end I
end FS
set_option Elab.async false
set_option linter.all false
set_option pp.maxSteps 700
set_option maxRecDepth 100000
set_option maxHeartbeats 8000000
namespace FS
open PySem L2
namespace I
section
local macro_rules | `(tactic| walk_at "okm") => `(tactic| first | (exact okMul_l (by omega)) | (exact okMul_r (by omega)) | decide)
local macro_rules | `(tactic| walk_at "fsW") => `(tactic| first
  | (with_reducible refine wp_useL ?_)
  | (with_reducible refine wp_lenL ?_)
  | (with_reducible refine wp_ixL ?_)
  | (with_reducible refine wp_mthL ?_)
  | ((with_reducible refine wp_gtupC ?_ ?_); exact rfl)
  | ((with_reducible refine wp_gtupZ ?_ ?_); exact rfl))
local macro_rules | `(tactic| walk_at "fsE") => `(tactic| first
  | ((with_reducible show ∃ ys, _ = some (Slot.own ys) ∧ _); refine x_own1 rfl ?_)
  | ((with_reducible refine x_mul ?_ ?_); (walk_at "okm"))
  | ((with_reducible refine x_div ?_ ?_ ?_); omega; omega)
  | ((with_reducible refine x_mod ?_ ?_); omega)
  | ((with_reducible refine x_pow ?_ ?_); decide)
  | ((with_reducible show ∃ k, _ = some (PV.bl k) ∧ _); refine x_chain rfl ?_)
  | ((with_reducible show ∃ n ys, _ = PV.ref n ∧ _ = some (SO.lst ys) ∧ _); refine x_mR rfl rfl ?_)
  | ((with_reducible show ∃ w, pIx _ _ _ = some w ∧ _); refine x_ix rfl ?_)
  | ((with_reducible show ∃ w, fLen _ _ = some w ∧ _); refine x_len rfl ?_)
  | ((with_reducible show ∃ w, fInt _ _ = some w ∧ _); refine x_int rfl ?_)
  | ((with_reducible refine x_isi (w := .bl true) ?_ ?_); exact rfl)
  | ((with_reducible refine x_isi (w := .bl false) ?_ ?_); exact rfl)
  | ((with_reducible show ∃ w, fTuple _ _ = some w ∧ _); refine x_tupf rfl ?_)
  | ((with_reducible show ∃ w, fMin _ _ = some w ∧ _); refine x_minf rfl ?_)
  | ((with_reducible show ∃ w, fMax _ _ = some w ∧ _); refine x_maxf rfl ?_)
  | ((with_reducible show ∃ w, pCut _ _ _ _ = some w ∧ _); refine x_pcut rfl ?_)
  | ((with_reducible show ∃ w, itemsOf _ _ = some w ∧ _); refine x_itm rfl ?_)
  | ((with_reducible show ∃ w, itemsF _ = some w ∧ _); refine x_itF rfl ?_)
  | ((with_reducible show ∃ i, _ = PV.int i ∧ _); refine x_part rfl ?_)
  | ((with_reducible show ∃ p q, _ = [p, q] ∧ _); refine x_par rfl ?_)
  | ((with_reducible show ∃ n xs j m, _ = PV.ref n ∧ _ = PV.int j ∧ _ ∧ _ ∧ _); refine x_setR rfl rfl rfl rfl ?_))
local macro_rules | `(tactic| walk_at "fsR") => `(tactic| first
  | ((with_reducible show Wp _ _ _); (walk_at "fsW"))
  | ((with_reducible show Exists _); (walk_at "fsE"))
  | ((with_reducible show LkS _ _ _); first | refine lks_v rfl ?_ | refine lks_o rfl ?_)
  | ((with_reducible show _ ≤ sizeLine ∧ _); refine x_low rfl ?_)
  | ((with_reducible show List.length _ = _ ∧ _); refine x_num rfl ?_))
local macro_rules | `(tactic| walk_at "fs1") => `(tactic| first | (with_reducible refine run1 ?_) | (walk_at "fsR"))
local macro_rules | `(tactic| walk_at "fs0") => `(tactic| first | (with_reducible refine stp1 ?_) | (walk_at "fsR"))
local macro_rules | `(tactic| walk_at "fs") => `(tactic| repeat (walk_at "fs1"))
local macro_rules | `(tactic| walk_at "fsp") => `(tactic| (with_reducible refine x_spl ?_ ?_) <;> (intro h; first | (simp only [Bool.not_true, Bool.not_false, reduceCtorEq, decide_eq_true_eq, decide_eq_false_iff_not, Bool.not_eq_true', Bool.not_eq_false', Bool.and_eq_true, Int.not_lt, Int.not_le, Bool.or_eq_true, Bool.and_eq_false_iff, Bool.or_eq_false_iff, Bool.false_and, Bool.true_and, Bool.or_false, Bool.false_or, beq_self_eq_true, Bool.true_or, List.isEmpty_nil, List.isEmpty_cons] at h) | skip))
local macro_rules | `(tactic| walk_at "fss") => `(tactic| repeat' (first | (walk_at "fs1") | (walk_at "fsp")))
local macro_rules | `(tactic| walk_at "fd1") => `(tactic| first
  | ((with_reducible refine go_draw ?_ ?_ ?_ ?_); assumption; (first | omega | decide); (first | omega | decide); intro s' v hp hv0 hv1)
  | (walk_at "fs1") | (walk_at "fsp"))
local macro_rules | `(tactic| walk_at "fdi1") => `(tactic| first
  | ((with_reducible refine go_draw ?_ ?_ ?_ ?_); assumption; (first | omega | decide); (first | omega | decide); intro s' v hp hv0 hv1)
  | (walk_at "fs0") | (walk_at "fsp"))
local macro_rules | `(tactic| walk_at "fd") => `(tactic| repeat' (walk_at "fd1"))
local macro_rules | `(tactic| walk_at "fdi") => `(tactic| repeat' ((fail_if_success (with_reducible show Wp (dSeq (dIf _ _ _) _ _ _) _ _)); (walk_at "fdi1")))
/-! ### the law -/
def entP (c : PV) (n : Int) : PV := .tup [.int n, c]
def rising (ns : List Int) : Prop := ns.Pairwise (· < ·) ∧ ∀ n ∈ ns, 0 ≤ n
theorem volAt_rows (c : PV) (ns : List Int) (m : Nat) (h : m ≤ ns.length) : volAt (ns.map (entP c)) m = if m = 0 then -1 else ns.getD (m - 1) 0 := by
  unfold volAt
  split
  · rfl
  · have hm : m - 1 < ns.length := by omega
    have h1 : (ns.map (entP c))[m - 1]? = some (entP c ns[m - 1]) := by rw [List.getElem?_map, List.getElem?_eq_getElem hm]; rfl
    have h2 : ns[m - 1]? = some ns[m - 1] := List.getElem?_eq_getElem hm
    rw [getD_some h1, getD_some h2]
    rfl
theorem isEnt_row {c : PV} (hc : chE c = none) (a n : Int) : isEnt a (entP c n) = (decide (0 ≤ n) && decide (a < n)) := by
  unfold entP
  rw [isEnt_eq, hc]
  show (decide (0 ≤ n) && (decide (a < n) && true)) = _
  rw [Bool.and_true]
theorem rows_good {c : PV} (hc : chE c = none) {ns : List Int} (h : rising ns) : ∀ m a, (ns.map (entP c))[m]? = some a → isEnt (volAt (ns.map (entP c)) m) a = true := fun m a hm => by
  rw [List.getElem?_map] at hm
  cases q : ns[m]? with
  | none => rw [q] at hm; cases hm
  | some n =>
    rw [q] at hm
    cases hm
    have hl : m < ns.length := (List.getElem?_eq_some_iff.mp q).1
    rw [volAt_rows c ns m (by omega), isEnt_row hc, Bool.and_eq_true, decide_eq_true_eq, decide_eq_true_eq]
    have h0 := h.2 n (List.mem_of_getElem? q)
    refine ⟨h0, ?_⟩
    split
    · omega
    · have h2 : ns[m - 1]? = some ns[m - 1] := List.getElem?_eq_getElem (by omega)
      rw [getD_some h2]
      have h3 := List.pairwise_iff_getElem.mp h.1 (m - 1) m (by omega) hl (by omega)
      rw [(List.getElem?_eq_some_iff.mp q).2] at h3
      exact h3
theorem volAt_pre {xs ys : List PV} {m : Nat} (h : m ≤ xs.length) : volAt (xs.take m ++ ys) m = volAt xs m := by
  unfold volAt
  split
  · rfl
  · have e : (xs.take m ++ ys).getD (m - 1) .non = xs.getD (m - 1) .non := by
      rw [List.getD_eq_getElem?_getD, List.getD_eq_getElem?_getD, List.getElem?_append_left (by rw [List.length_take]; omega), List.getElem?_take_of_lt (by omega)]
    rw [e]
theorem volAt_pre2 {xs ys : List PV} {m j : Nat} (h : m ≤ xs.length) (hj : j ≤ m) : volAt (xs.take m ++ ys) j = volAt xs j := by
  unfold volAt
  split
  · rfl
  · have e : (xs.take m ++ ys).getD (j - 1) .non = xs.getD (j - 1) .non := by
      rw [List.getD_eq_getElem?_getD, List.getD_eq_getElem?_getD, List.getElem?_append_left (by rw [List.length_take]; omega), List.getElem?_take_of_lt (by omega)]
    rw [e]
theorem fn_made_bent (S : Stt) (xs ys : List PV) (w : PV) (m : Nat) (hm : m ≤ xs.length) (ht : thbs (xs.take m ++ w :: ys) = true) (hk : okd 32 (.tup (xs.take m ++ w :: ys)) = true) (hl : (xs.take m ++ w :: ys).length ≤ 100)
    (hg : ∀ j a, xs[j]? = some a → isEnt (volAt xs j) a = true) (hw : isEnt (volAt xs m) w = false) : Fn (den_made_charters [.tup (xs.take m ++ w :: ys)] S) (fun _ _ => False) (fun c v s => s = S ∧ c = "BadCharters" ∧ v = .int m) := by
  have hml : (xs.take m).length = m := by rw [List.length_take]; omega
  have hat : (xs.take m ++ w :: ys)[m]? = some w := by
    rw [List.getElem?_append_right (by omega), hml, Nat.sub_self]
    rfl
  have hw2 : isEnt (volAt (xs.take m ++ w :: ys) m) w = false := by rw [volAt_pre hm]; exact hw
  refine Fn.mono (fn_made_charters S _ ht hk hl) (fun q s ⟨_, _, h⟩ => ?_) fun c v s ⟨e1, e2, i, a, e3, h1, h2, h3⟩ => ⟨e1, e2, ?_⟩
  · rw [h m w hat] at hw2
    cases hw2
  · rw [e3]
    rcases Nat.lt_trichotomy i m with h | h | h
    · have e : (xs.take m ++ w :: ys)[i]? = xs[i]? := by rw [List.getElem?_append_left (by omega), List.getElem?_take_of_lt h]
      rw [e] at h1
      have := hg i a h1
      rw [volAt_pre2 hm (by omega), this] at h2
      cases h2
    · rw [h]
    · have := h3 m h w hat
      rw [this] at hw2
      cases hw2
section
variable {good bad : PV} (gt : thb good = true) (go : okd 30 good = true) (gc : chE good = none) (bt : thb bad = true) (bo : okd 30 bad = true) (bc : chE bad ≠ none)
include gt go gc bt bo bc
theorem fn_many_right (S : Stt) (hP : Pool S) : Fn (den__law_many_right [.ref 1, good, bad] S) (fun q _ => q = .bl true) noR := by
  unfold den__law_many_right
  with_reducible refine fn_run ?_ ?_
  exact rfl
  unfold body__law_many_right
  walk_at "fd"
  rename_i s2 c hs2 c0 c1
  with_reducible refine wp_for ?_
  walk_at "fd"
  rename_i s3 t hs3 t0 t1
  refine x_rng1 (by omega) (by omega) ?_
  refine ⟨fun m e s => Pool s ∧ ∃ (ns : List Int) (N : Int) (x5 : Slot), e = [.val (.ref 1), .val good, .val bad, .own (ns.map (entP good)), .val (.int N), x5, .none, .none, .none] ∧ rising ns ∧ (∀ n ∈ ns, n < N) ∧ 0 ≤ N ∧ ns.length = m, ⟨hs3, [], c, .none, rfl, ⟨List.Pairwise.nil, fun n h => (by cases h)⟩, fun n h => (by cases h), c0, rfl⟩, fun m q e s hi ⟨hP, ns, N, x5, e1, h1, h2, h3, h4⟩ => ?_, fun e s ⟨hP, ns, N, x5, e1, h1, h2, h3, h4⟩ => ?_⟩
  · obtain ⟨hj, rfl⟩ := rng_get _ _ _ _ hi
    subst e1
    walk_at "fd"
    refine x_mfO rfl (app_ok (small_line (by rw [List.length_map]; omega))) ?_
    walk_at "fd"
    rename_i s4 z hs4 z0 z1
    refine ⟨hs4, ns ++ [N], N + 1 + z, .val (.int m), by rw [List.map_append]; rfl, ⟨List.pairwise_append.mpr ⟨h1.1, List.pairwise_singleton _ _, fun a ha b hb => ?_⟩, fun n hn => ?_⟩, fun n hn => ?_, by omega, by rw [List.length_append, h4]; rfl⟩
    · rw [List.mem_singleton.mp hb]
      exact h2 a ha
    · rcases List.mem_append.mp hn with h | h
      · exact h1.2 n h
      · rw [List.mem_singleton.mp h]
        exact h3
    · rcases List.mem_append.mp hn with h | h
      · have := h2 n h
        omega
      · rw [List.mem_singleton.mp h]
        omega
  subst e1
  rw [List.length_map, List.length_range] at h4
  have hrl : (ns.map (entP good)).length = ns.length := List.length_map ..
  have hgood := rows_good gc h1
  have hent : ∀ n, thb (entP good n) = true ∧ okd 31 (entP good n) = true := fun n => ⟨thb_pair rfl gt, okd_pair rfl go⟩
  have hxt : ∀ x ∈ ns.map (entP good), thb x = true ∧ okd 31 x = true := fun x hx => by
    obtain ⟨n, _, rfl⟩ := List.mem_map.mp hx
    exact hent n
  walk_at "fd"
  refine no_implicit_lambda% (Fn.mono (fn_made_charters s (ns.map (entP good)) (thbs_of fun x hx => (hxt x hx).1) (okd_tup fun x hx => (hxt x hx).2) (by omega)) (fun q s' ⟨e1, e2, _⟩ => ?_) fun c w s' ⟨_, _, i, a, _, q1, q2, _⟩ => ?_)
  rotate_left
  · rw [hgood i a q1] at q2
    cases q2
  subst e1 e2
  walk_at "fd"
  refine x_neS (okd_up (by decide) (okd_tup (k := 31) fun x hx => (hxt x hx).2)) (thbs_of fun x hx => (hxt x hx).1) ?_
  walk_at "fd"
  refine no_implicit_lambda% (go_heard ?_)
  walk_at "fd"
  refine no_implicit_lambda% (Fn.mono (fn_made_charters_no s') (fun q s h => h.elim) fun c w s ⟨e1, e2, e3⟩ => ?_)
  subst e1 e2 e3
  refine ⟨by decide +kernel, ?_⟩
  rw [hV_s]
  walk_at "fd"
  refine x_neE (by decide +kernel) ?_
  walk_at "fd"
  rename_i s4 v hs4 v0 v1
  obtain ⟨v, rfl⟩ : ∃ u : Nat, v = u := ⟨v.toNat, by omega⟩
  refine no_implicit_lambda% (go_pick (by assumption) (by simp) (by simp) (fun s5 w hs5 hm => ?_))
  have hww : thb w = true ∧ okd 31 w = true ∧ ∀ a, isEnt a w = false := by
    simp only [List.mem_cons, List.not_mem_nil, or_false] at hm
    rcases hm with rfl | rfl | rfl | rfl | rfl | rfl | rfl
    · exact ⟨thb_pair rfl gt, okd_pair rfl go, fun a => rfl⟩
    · exact ⟨thb_pair rfl gt, okd_pair rfl go, fun a => rfl⟩
    · exact ⟨thb_pair rfl gt, okd_pair rfl go, fun a => rfl⟩
    · refine ⟨thb_pair rfl bt, okd_pair rfl bo, fun a => ?_⟩
      rw [isEnt_eq, show (chE bad).isNone = false from by
        cases q : chE bad with
        | none => exact absurd q bc
        | some x => rfl, Bool.and_false, Bool.and_false]
    · exact ⟨rfl, rfl, fun a => rfl⟩
    · exact ⟨rfl, rfl, fun a => rfl⟩
    · exact ⟨thb_three rfl gt gt, okd_three rfl go go, fun a => rfl⟩
  walk_at "fdi"
  with_reducible refine wp_seq ?_
  refine no_implicit_lambda% (Wp.mono' (fun f e s => f = .next ∧ ∃ w, e = [.val (.ref 1), .val good, .val bad, .val (.lst (ns.map (entP good))), .val (.int N), x5, .val (.int v), .val w, .none] ∧ thb w = true ∧ okd 31 w = true ∧ isEnt (volAt (ns.map (entP good)) v) w = false) (fun _ _ _ _ => False) ?_ (fun f e s6 ⟨e1, w, e2, w1, w2, w3⟩ => ?_) (fun _ _ _ _ h => False.elim h))
  · walk_at "fd"
    · rename_i hv0 s6 z hs6 z0 z1 hz
      have hlt : v - 1 < ns.length := by omega
      have hx : ns[v - 1]? = some ns[v - 1] := List.getElem?_eq_getElem hlt
      have hvol := volAt_rows good ns v (by omega)
      rw [if_neg (by omega), getD_some hx] at hvol
      generalize ns[v - 1] = n at hx hvol
      rw [show ((v : Int) - 1) = ((v - 1 : Nat) : Int) by omega]
      refine x_ix (atI_nat (x := entP good n) (by rw [List.getElem?_map, hx]; rfl)) ?_
      unfold entP
      walk_at "fd"
      refine ⟨rfl, _, rfl, (hent n).1, (hent n).2, ?_⟩
      show isEnt _ (entP good n) = false
      rw [isEnt_row gc, show volAt (ns.map fun n => PV.tup [.int n, good]) v = n from hvol, show decide (n < n) = false from decide_eq_false (by omega), Bool.and_false]
    all_goals exact ⟨rfl, w, rfl, hww.1, hww.2.1, hww.2.2 _⟩
  subst e1 e2
  have hvl : v ≤ ns.length := by omega
  walk_at "fd"
  rw [cut_to]
  refine x_addL (xs := (ns.map (entP good)).take v) (ys := [w]) (small2 (by rw [List.length_take]; show _ + 1 < _; omega)) ?_
  walk_at "fd"
  rw [cut_from]
  refine x_addL (xs := (ns.map (entP good)).take v ++ [w]) (ys := (ns.map (entP good)).drop v) (small2 (by rw [List.length_append, List.length_take, List.length_drop]; show _ + 1 + _ < _; omega)) ?_
  rw [List.append_assoc]
  walk_at "fd"
  refine no_implicit_lambda% (go_heard ?_)
  walk_at "fd"
  have hmem : ∀ x ∈ (ns.map (entP good)).take v ++ w :: (ns.map (entP good)).drop v, thb x = true ∧ okd 31 x = true := fun x hx => by
    rcases List.mem_append.mp hx with h | h
    · exact hxt x (List.mem_of_mem_take h)
    · rcases List.mem_cons.mp h with rfl | h
      · exact ⟨w1, w2⟩
      · exact hxt x (List.mem_of_mem_drop h)
  refine no_implicit_lambda% (Fn.mono (show Fn (den_made_charters [.tup ((ns.map (entP good)).take v ++ w :: (ns.map (entP good)).drop v)] _) _ _ from fn_made_bent _ (ns.map (entP good)) ((ns.map (entP good)).drop v) w v (by omega) (thbs_of fun x hx => (hmem x hx).1) (okd_tup fun x hx => (hmem x hx).2) (by rw [List.length_append, List.length_take, List.length_cons, List.length_drop]; omega) hgood w3) (fun q s h => h.elim) fun c w s ⟨e1, e2, e3⟩ => ?_)
  subst e1 e2 e3
  refine ⟨by decide +kernel, ?_⟩
  rw [hV_s]
  walk_at "fd"
  refine x_eqE (by decide +kernel) ?_
  exact rfl
end
theorem plain_gnd (k : Int) (h : 1 ≤ k ∧ k ≤ 12) : Gnd 41 k [0, 1, 2] := ⟨cprimes 41 (by decide), h.1, h.2, by decide, by decide, by decide, by decide⟩
def plainB : List (List Ft) := [[(none, some 0), (some 0, some 0), (some 0, some 0)], [(some 0, some 0), (none, some 0), (some 0, some 0)]]
def turnB : List (List Ft) := [[(some 0, none), (some 0, some 0)], [(some 0, some 0), (some 0, none)]]
theorem fate_ok {f : Ft} (h : (f.1 = none ∨ f.1 = some 0) ∧ (f.2 = none ∨ f.2 = some 0)) : (∀ u, f.1 = some u → u ≤ 64) ∧ (∀ v, f.2 = some v → v ≤ 64) :=
  ⟨fun u e => by rcases h.1 with q | q <;> rw [q] at e <;> cases e; decide, fun u e => by rcases h.2 with q | q <;> rw [q] at e <;> cases e; decide⟩
theorem plain_ok : okB 3 plainB := ⟨by simp [plainB], by simp [plainB], fun r hr => by
  simp only [plainB, List.mem_cons, List.not_mem_nil, or_false] at hr
  rcases hr with rfl | rfl
  all_goals refine ⟨rfl, fun f hf => ?_⟩
  all_goals simp only [List.mem_cons, List.not_mem_nil, or_false] at hf
  all_goals rcases hf with rfl | rfl | rfl
  all_goals exact fate_ok (by decide)⟩
theorem turn_ok : okB 2 turnB := ⟨by simp [turnB], by simp [turnB], fun r hr => by
  simp only [turnB, List.mem_cons, List.not_mem_nil, or_false] at hr
  rcases hr with rfl | rfl
  all_goals refine ⟨rfl, fun f hf => ?_⟩
  all_goals simp only [List.mem_cons, List.not_mem_nil, or_false] at hf
  all_goals rcases hf with rfl | rfl
  all_goals exact fate_ok (by decide)⟩
theorem pair_ok {p k : Int} {xs : List Int} {bk : List (List Ft)} : thb (.tup [gv p k xs, bkP bk]) = true ∧ okd 30 (.tup [gv p k xs, bkP bk]) = true := ⟨thb_pair (gv_thb _ _ _) (bk_thb _), okd_pair (gv_okd _ _ _ _) (rws_okd 25 _)⟩
theorem plain_c : chE (.tup [gv 41 3 [0, 1, 2], bkP plainB]) = none := by
  rw [chE_gv (plain_gnd 3 (by decide)) plain_ok, if_neg (by decide), if_neg (by decide), if_neg (by decide)]
theorem plain_b : chE (.tup [gv 41 2 [0, 1, 2], bkP plainB]) ≠ none := by
  rw [chE_gv (plain_gnd 2 (by decide)) plain_ok, if_neg (by decide), if_pos (by decide)]
  exact fun h => by cases h
theorem turn_c : chE (.tup [gv 41 3 [0, 41], bkP turnB]) = er "Hopeless" 0 := by
  rw [chE_gv (p := 41) (k := 3) (xs := [0, 41]) ⟨cprimes 41 (by decide), by decide, by decide, by decide, by decide, by decide, by decide⟩ turn_ok, if_neg (by decide), if_neg (by decide), if_pos (by decide)]
theorem law_true (ns : List Int) (hns : ns.length ≤ 63) : ∃ S, den_law [.scr ns] [] = .ok (.bl true) S := by
  suffices h : Fn (den_law [.scr ns] []) (fun q _ => q = .bl true) noR by
    obtain ⟨p, s, e, h⟩ := h.ok
    exact ⟨s, by rw [e, h]⟩
  unfold den_law
  with_reducible refine fn_run ?_ ?_
  exact rfl
  unfold body_law
  walk_at "fd"
  refine no_implicit_lambda% (Fn.mono (fn_pool ns) (fun q S ⟨e1, hS⟩ => ?_) fun _ _ _ h => h.elim)
  subst e1
  walk_at "fd"
  have t1 := fn_is_told S (.tup [gv 41 3 [0, 1, 2], bkP plainB]) pair_ok.1 pair_ok.2
  rw [plain_c] at t1
  refine no_implicit_lambda% (Fn.mono t1 (fun q s ⟨e1, e2⟩ => ?_) fun _ _ _ h => h.elim)
  subst e1 e2
  walk_at "fd"
  have t2 := fn_is_told s (.tup [gv 41 3 [0, 41], bkP turnB]) pair_ok.1 pair_ok.2
  rw [turn_c, show dueV (er "Hopeless" 0) = .tup [.str "hopeless", .int 0] from hV_h _] at t2
  refine no_implicit_lambda% (Fn.mono t2 (fun q s' ⟨e1, e2⟩ => ?_) fun _ _ _ h => h.elim)
  subst e1 e2
  walk_at "fd"
  with_reducible refine wp_for ?_
  walk_at "fd"
  refine x_rng1 (by decide) (by decide) ?_
  refine ⟨fun m e s => Pool s ∧ ∃ x4 x5 x6 x7 x8 : Slot, e = [.val (.scr ns), .val (.ref 1), .val (.tup [gv 41 3 [0, 1, 2], bkP plainB]), .val (bkP turnB), x4, x5, x6, x7, x8], ⟨hS, _, _, _, _, _, rfl⟩, fun m q e s hi ⟨hP, x4, x5, x6, x7, x8, e2⟩ => ?_, fun e s ⟨hP, x4, x5, x6, x7, x8, e2⟩ => ?_⟩
  · subst e2
    walk_at "fd"
    refine no_implicit_lambda% (Fn.mono (fn_law_pair s hP) (fun q s1 ⟨hP1, p, k, xs, bk, e1, hg, hb, hs8⟩ => ?_) fun _ _ _ h => h.elim)
    subst e1
    walk_at "fd"
    refine no_implicit_lambda% (Fn.mono (fn_law_due s1 hg hb) (fun q s2 ⟨e1, e2⟩ => ?_) fun _ _ _ h => h.elim)
    subst e1 e2
    walk_at "fd"
    refine no_implicit_lambda% (Fn.mono (fn_is_told s2 (.tup [gv p k xs, bkP bk]) pair_ok.1 pair_ok.2) (fun q s3 ⟨e1, e2⟩ => ?_) fun _ _ _ h => h.elim)
    subst e1 e2
    walk_at "fd"
    refine no_implicit_lambda% (Fn.mono (fn_law_wrong hg hb s3 hP1 hs8) (fun q s4 ⟨hP4, t, c, i, e1, w1, w2, w3⟩ => ?_) fun _ _ _ h => h.elim)
    subst e1
    walk_at "fd"
    have t3 := fn_is_told s4 t w1 w2
    rw [w3] at t3
    refine no_implicit_lambda% (Fn.mono t3 (fun q s5 ⟨e1, e2⟩ => ?_) fun _ _ _ h => h.elim)
    subst e1 e2
    walk_at "fd"
    exact ⟨hP4, _, _, _, _, _, rfl⟩
  · subst e2
    walk_at "fd"
    rw [cut_one]
    refine x_addT (xs := [.int 41]) (ys := [.int 2]) (Nat.le_of_ble_eq_true rfl) ?_
    walk_at "fd"
    rw [show cutP [PV.int 41, .int 3, tupI [0, 1, 2]] (some (2 : Int)) none = [tupI [0, 1, 2]] from cut_from _ 2]
    refine x_addT (xs := [.int 41, .int 2]) (ys := [tupI [0, 1, 2]]) (Nat.le_of_ble_eq_true rfl) ?_
    walk_at "fd"
    exact Fn.mono (fn_many_right (good := .tup [gv 41 3 [0, 1, 2], bkP plainB]) (bad := .tup [gv 41 2 [0, 1, 2], bkP plainB]) pair_ok.1 pair_ok.2 plain_c pair_ok.1 pair_ok.2 plain_b s hP) (fun q s h => h) fun _ _ _ h => h.elim
end
end I
end FS
namespace FS
theorem law_true : ∀ ns : List Int, ns.length ≤ 63 → ∃ S, den_law [.scr ns] [] = .ok (.bl true) S := I.law_true
end FS
set_option Elab.async false
set_option linter.all false
set_option maxRecDepth 100000
/-! K60Walk: the walk of law_k60_charters (printed by our gen.py) -/
namespace FS
open PySem PySem.Spec L2
def topS (i : Nat) : Stmt := PySem.Challenge.pw_firstsafe_k60_charters.main.body.getD i (.Pass ⟨0, 0, 0, 0⟩)
/-! ### what the names of the module hold -/
structure Tx (K : PySem.W.Frag) (mg : Str → Option Value) : Prop where
  b_all : mg "all" = none
  b_bool : mg "bool" = none
  b_enumerate : mg "enumerate" = none
  b_int : mg "int" = none
  b_isinstance : mg "isinstance" = none
  b_len : mg "len" = none
  b_list : mg "list" = none
  b_max : mg "max" = none
  b_min : mg "min" = none
  b_range : mg "range" = none
  b_tuple : mg "tuple" = none
  b_zip : mg "zip" = none
  c_LEAST_NUMBERS : ∃ t, mg "LEAST_NUMBERS" = some (.int 3 t)
  c_LEAST_PRIME : ∃ t, mg "LEAST_PRIME" = some (.int 41 t)
  c_MOST_FATE : ∃ t, mg "MOST_FATE" = some (.int 64 t)
  c_MOST_NUMBERS : ∃ t, mg "MOST_NUMBERS" = some (.int 12 t)
  c_MOST_PRIME : ∃ t, mg "MOST_PRIME" = some (.int 65521 t)
  c_MOST_ROWS : ∃ t, mg "MOST_ROWS" = some (.int 24 t)
  c_MOST_SHELVES_books : ∃ t, mg "MOST_SHELVES_books" = some (.int 8 t)
  c_MOST_SHELVES_grounds : ∃ t, mg "MOST_SHELVES_grounds" = some (.int 8 t)
section
variable {P : Program} {w : World} {K : PySem.W.Frag} {mg : Str → Option Value} {base : Heap} {TT : List (Addr × Str)}
/-- what the written part says of the errors' classes -/
structure ErX (K : PySem.W.Frag) (mg : Str → Option Value) : Prop where
  at_ : ∀ c cls, errTab.contains c = true → mg c = some cls → ∃ C, cls = .ref C ∧ ErA K C
  is_ : ∀ c cls, errTab.contains c = true → mg c = some cls → ∃ C, cls = .ref C ∧ ErI K C
  n_BadBook : ∃ cv, mg "BadBook" = some cv ∧ ∀ c cls, errTab.contains c = true → mg c = some cls → PySem.W.exmOne K cls cv = some (catches "BadBook" c)
  n_BadCharter : ∃ cv, mg "BadCharter" = some cv ∧ ∀ c cls, errTab.contains c = true → mg c = some cls → PySem.W.exmOne K cls cv = some (catches "BadCharter" c)
  n_BadCharters : ∃ cv, mg "BadCharters" = some cv ∧ ∀ c cls, errTab.contains c = true → mg c = some cls → PySem.W.exmOne K cls cv = some (catches "BadCharters" c)
  n_BadGround : ∃ cv, mg "BadGround" = some cv ∧ ∀ c cls, errTab.contains c = true → mg c = some cls → PySem.W.exmOne K cls cv = some (catches "BadGround" c)
  n_Hopeless : ∃ cv, mg "Hopeless" = some cv ∧ ∀ c cls, errTab.contains c = true → mg c = some cls → PySem.W.exmOne K cls cv = some (catches "Hopeless" c)
  n_Refused : ∃ cv, mg "Refused" = some cv ∧ ∀ c cls, errTab.contains c = true → mg c = some cls → PySem.W.exmOne K cls cv = some (catches "Refused" c)
  n_TooMany : ∃ cv, mg "TooMany" = some cv ∧ ∀ c cls, errTab.contains c = true → mg c = some cls → PySem.W.exmOne K cls cv = some (catches "TooMany" c)
  i_Hopeless : ∃ cv, mg "Hopeless" = some (.ref cv) ∧ ∀ c C, errTab.contains c = true → mg c = some (.ref C) → PySem.W.kitOne K (.ref C) (.ref cv) = some (catches "Hopeless" c)
  i_Refused : ∃ cv, mg "Refused" = some (.ref cv) ∧ ∀ c C, errTab.contains c = true → mg c = some (.ref C) → PySem.W.kitOne K (.ref C) (.ref cv) = some (catches "Refused" c)
theorem sc__law_pool : FnScope ["_law_script", "_law_first", "_law_size"] ["_law_script"] (defScope (topS 49)) := ⟨rfl, rfl, rfl, by decide +kernel, rfl, by decide +kernel, by decide +kernel⟩
theorem ok__law_pool {f : Addr} {fd : FuncData} (F : Fun K "_law_pool" "_law_pool" (topS 49) f fd) (T : Tx K mg) : FnOk P w K mg base (L2.CX P w) 1 f fd ["_law_script"] (spD K mg 1 den__law_pool) := by
  unfold den__law_pool body__law_pool
  exact def_ok F sc__law_pool fun cdv A outer s H E G hr => mss_cons (ms_set 1 sc__law_pool.nd (me_if (mt_cmp op_pGt (me_blt c_len T.b_len (ma_cons (me_use 0) (ma_nil))) (me_int) (nomark _)) (me_bty c_int T.b_int (ma_cons (me_ix (me_use 0) (me_int)) (ma_nil))) (me_int))) (mss_cons (ms_set 2 sc__law_pool.nd (me_if (mt_cmp op_pGe (me_use 1) (me_int) (nomark _)) (me_op op_pMul (me_int) (me_use 1)) (me_op op_pSub (me_neg (me_int)) (me_op op_pMul (me_int) (me_use 1))))) (mss_one (ms_ret (me_new (mf_disp (ma_cons (me_if (mt_cmp op_pGe (me_use 2) (me_op op_pPow (me_int) (me_int)) (nomark _)) (me_use 2) (me_int)) (ma_cons (me_op op_pAdd (me_op op_pMod (me_bty c_int T.b_int (ma_cons (me_op op_pAdd (me_op op_pMul (me_use 2) (me_int)) (me_int)) (ma_nil))) (me_int)) (me_int)) (ma_cons (me_new (mf_list (me_cut (me_use 0) (mo_some (me_int)) (mo_none)) T.b_list)) (ma_nil)))))))))
theorem sc__law_draw : FnScope ["_law_pool_here", "_law_many", "_law_first", "_law_size", "_law_found"] ["_law_pool_here", "_law_many"] (defScope (topS 47)) := ⟨rfl, rfl, rfl, by decide +kernel, rfl, by decide +kernel, by decide +kernel⟩
theorem ok__law_draw {f : Addr} {fd : FuncData} (F : Fun K "_law_draw" "_law_draw" (topS 47) f fd) (T : Tx K mg) : FnOk P w K mg base (L2.CX P w) 1 f fd ["_law_pool_here", "_law_many"] (spD K mg 2 den__law_draw) := by
  unfold den__law_draw body__law_draw
  exact def_ok F sc__law_draw fun cdv A outer s H E G hr => mss_cons (ms_if (mt_w (mw_and (mt_cmp (op_pEq hr) (me_ix (me_use 0) (me_int)) (me_int) (nomark _)) (mw_and1 (mt_cmp (op_pNe hr) (me_ix (me_use 0) (me_int)) (me_frz (mf_disp (ma_nil))) (nomark _))))) (mss_cons (ms_set 2 sc__law_draw.nd (me_bty c_int T.b_int (ma_cons (me_mthR (slot := PySem.F.slot_list_pop) m_popAt PySem.F.type_list_pop (me_ix (me_use 0) (me_int)) (ma_cons (me_int) (ma_nil))) (ma_nil)))) (mss_cons (ms_set 3 sc__law_draw.nd (me_if (mt_cmp op_pGe (me_use 2) (me_int) (nomark _)) (me_op op_pMul (me_int) (me_use 2)) (me_op op_pSub (me_neg (me_int)) (me_op op_pMul (me_int) (me_use 2))))) (mss_cons (ms_setR (me_if (mt_cmp op_pGe (me_use 3) (me_op op_pPow (me_int) (me_int)) (nomark _)) (me_use 3) (me_int)) (me_use 0) (me_int)) (mss_one (ms_setR (me_op op_pAdd (me_op op_pMod (me_bty c_int T.b_int (ma_cons (me_op op_pAdd (me_ix (me_use 0) (me_int)) (me_op op_pMul (me_use 3) (me_int))) (ma_nil))) (me_int)) (me_int)) (me_use 0) (me_int)))))) (mss_nil)) (mss_cons (ms_if (mt_cmp op_pGt (me_ix (me_use 0) (me_int)) (me_int) (nomark _)) (mss_cons (ms_set 4 sc__law_draw.nd (me_op op_pMod (me_bty c_int T.b_int (ma_cons (me_ix (me_use 0) (me_int)) (ma_nil))) (me_use 1))) (mss_cons (ms_setR (me_op op_pDiv (me_ix (me_use 0) (me_int)) (me_use 1)) (me_use 0) (me_int)) (mss_one (ms_ret (me_use 4))))) (mss_nil)) (mss_cons (ms_setR (me_op op_pMod (me_bty c_int T.b_int (ma_cons (me_op op_pAdd (me_op op_pMul (me_ix (me_use 0) (me_int)) (me_int)) (me_int)) (ma_nil))) (me_int)) (me_use 0) (me_int)) (mss_one (ms_ret (me_op op_pMod (me_op op_pDiv (me_op op_pMod (me_bty c_int T.b_int (ma_cons (me_op op_pMul (me_ix (me_use 0) (me_int)) (me_ix (me_use 0) (me_int))) (ma_nil))) (me_int)) (me_int)) (me_use 1))))))
theorem sc__law_pick : FnScope ["_law_pool_here", "_law_things"] ["_law_pool_here", "_law_things"] (defScope (topS 48)) := ⟨rfl, rfl, rfl, by decide +kernel, rfl, by decide +kernel, by decide +kernel⟩
theorem ok__law_pick {f : Addr} {fd : FuncData} (F : Fun K "_law_pick" "_law_pick" (topS 48) f fd) (T : Tx K mg) (D__law_draw : Df P w K mg base 1 "_law_draw" 2 den__law_draw) : FnOk P w K mg base (L2.CX P w) 2 f fd ["_law_pool_here", "_law_things"] (spD K mg 2 den__law_pick) := by
  unfold den__law_pick body__law_pick
  exact def_ok F sc__law_pick fun cdv A outer s H E G hr => mss_one (ms_ret (me_ix (me_use 1) (me_call D__law_draw hr (takes_of (E := E) rfl rfl rfl rfl) (ma_cons (me_use 0) (ma_cons (me_blt c_len T.b_len (ma_cons (me_use 1) (ma_nil))) (ma_nil))))))
theorem sc__law_heard : FnScope ["_law_call", "error"] ["_law_call"] (defScope (topS 55)) := ⟨rfl, rfl, rfl, by decide +kernel, rfl, by decide +kernel, by decide +kernel⟩
theorem ok__law_heard {g : Addr} {cdg : Value} (T : Tx K mg) (EX : ErX K mg) : ∀ (X : Cx) (q : Str), X.prog = P → X.w = w → X.K = K → X.mg = mg → X.base = base → LamX.GivesTo X ["_law_call", "error"] "_law_heard" (defScope (topS 55)) g cdg (defBody (topS 55)) "_law_call" q (TTof K mg den__law_heard) := by
  obtain ⟨v_BadBook, m_BadBook, X_BadBook⟩ := EX.n_BadBook
  obtain ⟨v_BadCharter, m_BadCharter, X_BadCharter⟩ := EX.n_BadCharter
  obtain ⟨v_BadCharters, m_BadCharters, X_BadCharters⟩ := EX.n_BadCharters
  obtain ⟨v_BadGround, m_BadGround, X_BadGround⟩ := EX.n_BadGround
  obtain ⟨v_Hopeless, m_Hopeless, X_Hopeless⟩ := EX.n_Hopeless
  obtain ⟨v_TooMany, m_TooMany, X_TooMany⟩ := EX.n_TooMany
  intro X q e1 e2 e3 e4 e5
  subst e1 e2 e3 e4 e5
  refine gives_of (body := body__law_heard) (fun _ _ _ => by unfold den__law_heard; rfl) fun f s H G act rule => ?_
  unfold body__law_heard
  exact mss_cons (ms_try sc__law_heard.nd takes0 (fun W pn xe tk hp => mss_one (ms_expr (rule _ pn xe _ _ tk))) (HsOk.named ⟨rfl, by decide, .inl m_BadCharter⟩ rfl rfl X_BadCharter (fun a oe cls b pn c hz hv hm ht => mss_one (ms_ret (me_if (mt_w (mw_and (mt_tru ((by obtain ⟨C, rfl, TI⟩ := EX.is_ c cls ht hm; obtain ⟨cv, mc, kk⟩ := EX.i_Refused; exact me_isE _ TI hz hv (pe_glob (v := .ref cv) (by rfl) mc rfl) (fun u r => r) (kk c C ht hm) T.b_isinstance))) (mw_and1 (mt_not (mt_tru ((by obtain ⟨C, rfl, TI⟩ := EX.is_ c cls ht hm; obtain ⟨cv, mc, kk⟩ := EX.i_Hopeless; exact me_isE _ TI hz hv (pe_glob (v := .ref cv) (by rfl) mc rfl) (fun u r => r) (kk c C ht hm) T.b_isinstance))))))) (me_tup (ma_cons (me_str) (ma_cons ((by obtain ⟨C, rfl, TA⟩ := EX.at_ c cls ht hm; exact me_what _ TA hz hv)) (ma_nil)))) (me_non)))) (HsOk.named ⟨rfl, by decide, .inl m_Hopeless⟩ rfl rfl X_Hopeless (fun a oe cls b pn c hz hv hm ht => mss_one (ms_ret (me_tup (ma_cons (me_str) (ma_cons ((by obtain ⟨C, rfl, TA⟩ := EX.at_ c cls ht hm; exact me_what _ TA hz hv)) (ma_nil)))))) (HsOk.named ⟨rfl, by decide, .inl m_BadGround⟩ rfl rfl X_BadGround (fun a oe cls b pn c hz hv hm ht => mss_one (ms_ret (me_tup (ma_cons (me_str) (ma_cons ((by obtain ⟨C, rfl, TA⟩ := EX.at_ c cls ht hm; exact me_what _ TA hz hv)) (ma_nil)))))) (HsOk.named ⟨rfl, by decide, .inl m_BadBook⟩ rfl rfl X_BadBook (fun a oe cls b pn c hz hv hm ht => mss_one (ms_ret (me_tup (ma_cons (me_str) (ma_cons ((by obtain ⟨C, rfl, TA⟩ := EX.at_ c cls ht hm; exact me_what _ TA hz hv)) (ma_nil)))))) (HsOk.named ⟨rfl, by decide, .inl m_TooMany⟩ rfl rfl X_TooMany (fun a oe cls b pn c hz hv hm ht => mss_one (ms_ret (me_tup (ma_cons (me_str) (ma_cons ((by obtain ⟨C, rfl, TA⟩ := EX.at_ c cls ht hm; exact me_what _ TA hz hv)) (ma_nil)))))) (HsOk.named ⟨rfl, by decide, .inl m_BadCharters⟩ rfl rfl X_BadCharters (fun a oe cls b pn c hz hv hm ht => mss_one (ms_ret (me_tup (ma_cons (me_str) (ma_cons ((by obtain ⟨C, rfl, TA⟩ := EX.at_ c cls ht hm; exact me_what _ TA hz hv)) (ma_nil)))))) (HsOk.nil)))))))) (mss_one (ms_ret (me_non)))
theorem sc_is_volume : FnScope ["thing"] ["thing"] (defScope (topS 38)) := ⟨rfl, rfl, rfl, by decide +kernel, rfl, by decide +kernel, by decide +kernel⟩
theorem ok_is_volume {f : Addr} {fd : FuncData} (F : Fun K "is_volume" "is_volume" (topS 38) f fd) (T : Tx K mg) : FnOk P w K mg base (L2.CX P w) 1 f fd ["thing"] (spD K mg 1 den_is_volume) := by
  unfold den_is_volume body_is_volume
  exact def_ok F sc_is_volume fun cdv A outer s H E G hr => mss_one (ms_ret (me_and (me_blt c_isi T.b_isinstance (ma_cons (me_use 0) (ma_cons (me_ty T.b_int (by decide +kernel)) (ma_nil)))) (me_and (me_not (me_blt c_isi T.b_isinstance (ma_cons (me_use 0) (ma_cons (me_ty T.b_bool (by decide +kernel)) (ma_nil))))) (me_one (me_cmp op_pGe (me_use 0) (me_int) (nomark _))))))
theorem sc_is_whole : FnScope ["thing", "low", "high"] ["thing", "low", "high"] (defScope (topS 12)) := ⟨rfl, rfl, rfl, by decide +kernel, rfl, by decide +kernel, by decide +kernel⟩
theorem ok_is_whole {f : Addr} {fd : FuncData} (F : Fun K "is_whole" "is_whole" (topS 12) f fd) (T : Tx K mg) : FnOk P w K mg base (L2.CX P w) 1 f fd ["thing", "low", "high"] (spD K mg 3 den_is_whole) := by
  unfold den_is_whole body_is_whole
  exact def_ok F sc_is_whole fun cdv A outer s H E G hr => mss_one (ms_ret (me_and (me_blt c_isi T.b_isinstance (ma_cons (me_use 0) (ma_cons (me_ty T.b_int (by decide +kernel)) (ma_nil)))) (me_and (me_not (me_blt c_isi T.b_isinstance (ma_cons (me_use 0) (ma_cons (me_ty T.b_bool (by decide +kernel)) (ma_nil))))) (me_one (me_chain op_pLe op_pLe (me_use 1) (me_use 0) (me_use 2))))))
theorem sc_is_prime : FnScope ["n", "divisor"] ["n"] (defScope (topS 13)) := ⟨rfl, rfl, rfl, by decide +kernel, rfl, by decide +kernel, by decide +kernel⟩
theorem ok_is_prime {f : Addr} {fd : FuncData} (F : Fun K "is_prime" "is_prime" (topS 13) f fd) (T : Tx K mg) (D_is_whole : Df P w K mg base 1 "is_whole" 3 den_is_whole) : FnOk P w K mg base (L2.CX P w) 2 f fd ["n"] (spD K mg 1 den_is_prime) := by
  obtain ⟨t_MOST_PRIME, c_MOST_PRIME⟩ := T.c_MOST_PRIME
  unfold den_is_prime body_is_prime
  exact def_ok F sc_is_prime fun cdv A outer s H E G hr => mss_cons (ms_if (mt_not (mt_tru (me_call D_is_whole hr (takes_of (E := E) rfl rfl rfl rfl) (ma_cons (me_use 0) (ma_cons (me_int) (ma_cons (me_gint c_MOST_PRIME) (ma_nil))))))) (mss_one (ms_ret (me_bl))) (mss_nil)) (mss_cons (ms_set 1 sc_is_prime.nd (me_int)) (mss_cons (ms_while (passes_of rfl) (mt_cmp op_pLe (me_op op_pMul (me_use 1) (me_use 1)) (me_use 0) (nomark _)) (mss_cons (ms_if (mt_cmp (op_pEq hr) (me_op op_pMod (me_use 0) (me_use 1)) (me_int) (nomark _)) (mss_one (ms_ret (me_bl))) (mss_nil)) (mss_one (ms_set 1 sc_is_prime.nd (me_op op_pAdd (me_use 1) (me_int)))))) (mss_one (ms_ret (me_bl)))))
theorem sc_are_points : FnScope ["p", "thing", "index"] ["p", "thing"] (defScope (topS 17)) := ⟨rfl, rfl, rfl, by decide +kernel, rfl, by decide +kernel, by decide +kernel⟩
theorem ok_are_points {f : Addr} {fd : FuncData} (F : Fun K "are_points" "are_points" (topS 17) f fd) (T : Tx K mg) (D_is_whole : Df P w K mg base 1 "is_whole" 3 den_is_whole) : FnOk P w K mg base (L2.CX P w) 2 f fd ["p", "thing"] (spD K mg 2 den_are_points) := by
  obtain ⟨t_MOST_SHELVES_grounds, c_MOST_SHELVES_grounds⟩ := T.c_MOST_SHELVES_grounds
  unfold den_are_points body_are_points
  exact def_ok F sc_are_points fun cdv A outer s H E G hr => mss_cons (ms_if (mt_w (mw_or (mt_not (mt_tru (me_blt c_isi T.b_isinstance (ma_cons (me_use 1) (ma_cons (me_ty T.b_tuple (by decide +kernel)) (ma_nil)))))) (mw_or1 (mt_not (mt_chain op_pLe op_pLe (me_int) (me_blt c_len T.b_len (ma_cons (me_use 1) (ma_nil))) (me_gint c_MOST_SHELVES_grounds)))))) (mss_one (ms_ret (me_bl))) (mss_nil)) (mss_cons (ms_for (passes_of rfl) (mi_range1 T.b_range (ma_cons (me_blt c_len T.b_len (ma_cons (me_use 1) (ma_nil))) (ma_nil))) (mg_name 2 sc_are_points.nd) (mss_one (ms_if (mt_w (mw_or (mt_not (mt_tru (me_call D_is_whole hr (takes_of (E := E) rfl rfl rfl rfl) (ma_cons (me_ix (me_use 1) (me_use 2)) (ma_cons (me_int) (ma_cons (me_use 0) (ma_nil))))))) (mw_or1 (mt_cmp (op_pInA hr) (me_ix (me_use 1) (me_use 2)) (me_cut (me_use 1) (mo_none) (mo_some (me_use 2))) (by with_unfolding_all rfl))))) (mss_one (ms_ret (me_bl))) (mss_nil)))) (mss_one (ms_ret (me_bl))))
theorem sc_made_ground : FnScope ["thing"] ["thing"] (defScope (topS 18)) := ⟨rfl, rfl, rfl, by decide +kernel, rfl, by decide +kernel, by decide +kernel⟩
theorem ok_made_ground {f : Addr} {fd : FuncData} (F : Fun K "made_ground" "made_ground" (topS 18) f fd) (T : Tx K mg) (D_is_prime : Df P w K mg base 2 "is_prime" 1 den_is_prime) (D_is_whole : Df P w K mg base 1 "is_whole" 3 den_is_whole) (D_are_points : Df P w K mg base 2 "are_points" 2 den_are_points) (E_BadGround : ErC P w K mg base "BadGround") : FnOk P w K mg base (L2.CX P w) 3 f fd ["thing"] (spD K mg 1 den_made_ground) := by
  obtain ⟨t_MOST_NUMBERS, c_MOST_NUMBERS⟩ := T.c_MOST_NUMBERS
  unfold den_made_ground body_made_ground
  exact def_ok F sc_made_ground fun cdv A outer s H E G hr => mss_cons (ms_if (mt_w (mw_or (mt_not (mt_tru (me_blt c_isi T.b_isinstance (ma_cons (me_use 0) (ma_cons (me_ty T.b_tuple (by decide +kernel)) (ma_nil)))))) (mw_or1 (mt_cmp (op_pNe hr) (me_blt c_len T.b_len (ma_cons (me_use 0) (ma_nil))) (me_int) (nomark _))))) (mss_one (ms_raise E_BadGround hr (takes_of (E := E) rfl rfl rfl rfl) (me_neg (me_int)))) (mss_nil)) (mss_cons (ms_if (mt_not (mt_tru (me_call D_is_prime hr (takes_of (E := E) rfl rfl rfl rfl) (ma_cons (me_ix (me_use 0) (me_int)) (ma_nil))))) (mss_one (ms_raise E_BadGround hr (takes_of (E := E) rfl rfl rfl rfl) (me_int))) (mss_nil)) (mss_cons (ms_if (mt_not (mt_tru (me_call D_is_whole hr (takes_of (E := E) rfl rfl rfl rfl) (ma_cons (me_ix (me_use 0) (me_int)) (ma_cons (me_int) (ma_cons (me_gint c_MOST_NUMBERS) (ma_nil))))))) (mss_one (ms_raise E_BadGround hr (takes_of (E := E) rfl rfl rfl rfl) (me_int))) (mss_nil)) (mss_cons (ms_if (mt_not (mt_tru (me_call D_are_points hr (takes_of (E := E) rfl rfl rfl rfl) (ma_cons (me_ix (me_use 0) (me_int)) (ma_cons (me_ix (me_use 0) (me_int)) (ma_nil)))))) (mss_one (ms_raise E_BadGround hr (takes_of (E := E) rfl rfl rfl rfl) (me_int))) (mss_nil)) (mss_one (ms_ret (me_use 0))))))
theorem sc_is_below : FnScope ["thing", "many"] ["thing", "many"] (defScope (topS 21)) := ⟨rfl, rfl, rfl, by decide +kernel, rfl, by decide +kernel, by decide +kernel⟩
theorem ok_is_below {f : Addr} {fd : FuncData} (F : Fun K "is_below" "is_below" (topS 21) f fd) (T : Tx K mg) : FnOk P w K mg base (L2.CX P w) 1 f fd ["thing", "many"] (spD K mg 2 den_is_below) := by
  unfold den_is_below body_is_below
  exact def_ok F sc_is_below fun cdv A outer s H E G hr => mss_one (ms_ret (me_and (me_blt c_isi T.b_isinstance (ma_cons (me_use 0) (ma_cons (me_ty T.b_int (by decide +kernel)) (ma_nil)))) (me_and (me_not (me_blt c_isi T.b_isinstance (ma_cons (me_use 0) (ma_cons (me_ty T.b_bool (by decide +kernel)) (ma_nil))))) (me_one (me_chain op_pLe op_pLt (me_int) (me_use 0) (me_use 1))))))
theorem sc_is_bound : FnScope ["thing"] ["thing"] (defScope (topS 26)) := ⟨rfl, rfl, rfl, by decide +kernel, rfl, by decide +kernel, by decide +kernel⟩
theorem ok_is_bound {f : Addr} {fd : FuncData} (F : Fun K "is_bound" "is_bound" (topS 26) f fd) (T : Tx K mg) (D_is_below : Df P w K mg base 1 "is_below" 2 den_is_below) : FnOk P w K mg base (L2.CX P w) 2 f fd ["thing"] (spD K mg 1 den_is_bound) := by
  obtain ⟨t_MOST_FATE, c_MOST_FATE⟩ := T.c_MOST_FATE
  unfold den_is_bound body_is_bound
  exact def_ok F sc_is_bound fun cdv A outer s H E G hr => mss_one (ms_ret (me_or (me_cmp op_pIs (me_use 0) (me_non) (nomark _)) (me_one (me_call D_is_below hr (takes_of (E := E) rfl rfl rfl rfl) (ma_cons (me_use 0) (ma_cons (me_op op_pAdd (me_gint c_MOST_FATE) (me_int)) (ma_nil)))))))
theorem sc_is_fate : FnScope ["thing"] ["thing"] (defScope (topS 27)) := ⟨rfl, rfl, rfl, by decide +kernel, rfl, by decide +kernel, by decide +kernel⟩
theorem ok_is_fate {f : Addr} {fd : FuncData} (F : Fun K "is_fate" "is_fate" (topS 27) f fd) (T : Tx K mg) (D_is_bound : Df P w K mg base 2 "is_bound" 1 den_is_bound) : FnOk P w K mg base (L2.CX P w) 3 f fd ["thing"] (spD K mg 1 den_is_fate) := by
  unfold den_is_fate body_is_fate
  exact def_ok F sc_is_fate fun cdv A outer s H E G hr => mss_one (ms_ret (me_and (me_blt c_isi T.b_isinstance (ma_cons (me_use 0) (ma_cons (me_ty T.b_tuple (by decide +kernel)) (ma_nil)))) (me_and (me_cmp (op_pEq hr) (me_blt c_len T.b_len (ma_cons (me_use 0) (ma_nil))) (me_int) (nomark _)) (me_and (me_call D_is_bound hr (takes_of (E := E) rfl rfl rfl rfl) (ma_cons (me_ix (me_use 0) (me_int)) (ma_nil))) (me_one (me_call D_is_bound hr (takes_of (E := E) rfl rfl rfl rfl) (ma_cons (me_ix (me_use 0) (me_int)) (ma_nil))))))))
theorem sc_is_row : FnScope ["many", "thing", "fate"] ["many", "thing"] (defScope (topS 28)) := ⟨rfl, rfl, rfl, by decide +kernel, rfl, by decide +kernel, by decide +kernel⟩
theorem ok_is_row {f : Addr} {fd : FuncData} (F : Fun K "is_row" "is_row" (topS 28) f fd) (T : Tx K mg) (D_is_fate : Df P w K mg base 3 "is_fate" 1 den_is_fate) : FnOk P w K mg base (L2.CX P w) 4 f fd ["many", "thing"] (spD K mg 2 den_is_row) := by
  unfold den_is_row body_is_row
  exact def_ok F sc_is_row fun cdv A outer s H E G hr => mss_cons (ms_if (mt_w (mw_or (mt_not (mt_tru (me_blt c_isi T.b_isinstance (ma_cons (me_use 1) (ma_cons (me_ty T.b_tuple (by decide +kernel)) (ma_nil)))))) (mw_or1 (mt_cmp (op_pNe hr) (me_blt c_len T.b_len (ma_cons (me_use 1) (ma_nil))) (me_use 0) (nomark _))))) (mss_one (ms_ret (me_bl))) (mss_nil)) (mss_cons (ms_for (passes_of rfl) (mi_val (me_use 1)) (mg_name 2 sc_is_row.nd) (mss_one (ms_if (mt_not (mt_tru (me_call D_is_fate hr (takes_of (E := E) rfl rfl rfl rfl) (ma_cons (me_use 2) (ma_nil))))) (mss_one (ms_ret (me_bl))) (mss_nil)))) (mss_one (ms_ret (me_bl))))
theorem sc_made_book : FnScope ["many", "thing", "index", "row"] ["many", "thing"] (defScope (topS 29)) := ⟨rfl, rfl, rfl, by decide +kernel, rfl, by decide +kernel, by decide +kernel⟩
theorem ok_made_book {f : Addr} {fd : FuncData} (F : Fun K "made_book" "made_book" (topS 29) f fd) (T : Tx K mg) (D_is_below : Df P w K mg base 1 "is_below" 2 den_is_below) (D_is_row : Df P w K mg base 4 "is_row" 2 den_is_row) (E_BadMany : ErC P w K mg base "BadMany") (E_BadBook : ErC P w K mg base "BadBook") (E_TooMany : ErC P w K mg base "TooMany") : FnOk P w K mg base (L2.CX P w) 5 f fd ["many", "thing"] (spD K mg 2 den_made_book) := by
  obtain ⟨t_MOST_ROWS, c_MOST_ROWS⟩ := T.c_MOST_ROWS
  obtain ⟨t_MOST_SHELVES_books, c_MOST_SHELVES_books⟩ := T.c_MOST_SHELVES_books
  unfold den_made_book body_made_book
  exact def_ok F sc_made_book fun cdv A outer s H E G hr => mss_cons (ms_if (mt_w (mw_or (mt_not (mt_tru (me_call D_is_below hr (takes_of (E := E) rfl rfl rfl rfl) (ma_cons (me_use 0) (ma_cons (me_op op_pAdd (me_gint c_MOST_SHELVES_books) (me_int)) (ma_nil)))))) (mw_or1 (mt_cmp (op_pEq hr) (me_use 0) (me_int) (nomark _))))) (mss_one (ms_raise E_BadMany hr (takes_of (E := E) rfl rfl rfl rfl) (me_use 0))) (mss_nil)) (mss_cons (ms_if (mt_w (mw_or (mt_not (mt_tru (me_blt c_isi T.b_isinstance (ma_cons (me_use 1) (ma_cons (me_ty T.b_tuple (by decide +kernel)) (ma_nil)))))) (mw_or1 (mt_cmp (op_pEq hr) (me_use 1) (me_tup (ma_nil)) (nomark _))))) (mss_one (ms_raise E_BadBook hr (takes_of (E := E) rfl rfl rfl rfl) (me_neg (me_int)))) (mss_nil)) (mss_cons (ms_if (mt_cmp op_pGt (me_blt c_len T.b_len (ma_cons (me_use 1) (ma_nil))) (me_gint c_MOST_ROWS) (nomark _)) (mss_one (ms_raise E_TooMany hr (takes_of (E := E) rfl rfl rfl rfl) (me_blt c_len T.b_len (ma_cons (me_use 1) (ma_nil))))) (mss_nil)) (mss_cons (ms_for (passes_of rfl) (mi_enum T.b_enumerate (ma_cons (me_use 1) (ma_nil))) (mg_tup (mgs_cons (mg_name 2 sc_made_book.nd) (mgs_cons (mg_name 3 sc_made_book.nd) (mgs_nil)))) (mss_one (ms_if (mt_not (mt_tru (me_call D_is_row hr (takes_of (E := E) rfl rfl rfl rfl) (ma_cons (me_use 0) (ma_cons (me_use 3) (ma_nil)))))) (mss_one (ms_raise E_BadBook hr (takes_of (E := E) rfl rfl rfl rfl) (me_use 2))) (mss_nil)))) (mss_one (ms_ret (me_use 1))))))
theorem sc_shelves : FnScope ["ground"] ["ground"] (defScope (topS 19)) := ⟨rfl, rfl, rfl, by decide +kernel, rfl, by decide +kernel, by decide +kernel⟩
theorem ok_shelves {f : Addr} {fd : FuncData} (F : Fun K "shelves" "shelves" (topS 19) f fd) (T : Tx K mg) (D_made_ground : Df P w K mg base 3 "made_ground" 1 den_made_ground) : FnOk P w K mg base (L2.CX P w) 4 f fd ["ground"] (spD K mg 1 den_shelves) := by
  unfold den_shelves body_shelves
  exact def_ok F sc_shelves fun cdv A outer s H E G hr => mss_one (ms_ret (me_blt c_len T.b_len (ma_cons (me_ix (me_call D_made_ground hr (takes_of (E := E) rfl rfl rfl rfl) (ma_cons (me_use 0) (ma_nil))) (me_int)) (ma_nil))))
theorem sc_check_told : FnScope ["told"] ["told"] (defScope (topS 31)) := ⟨rfl, rfl, rfl, by decide +kernel, rfl, by decide +kernel, by decide +kernel⟩
theorem ok_check_told {f : Addr} {fd : FuncData} (F : Fun K "check_told" "check_told" (topS 31) f fd) (T : Tx K mg) (E_BadTold : ErC P w K mg base "BadTold") : FnOk P w K mg base (L2.CX P w) 3 f fd ["told"] (spD K mg 1 den_check_told) := by
  unfold den_check_told body_check_told
  exact def_ok F sc_check_told fun cdv A outer s H E G hr => mss_one (ms_if (mt_not (mt_tru (me_blt c_isi T.b_isinstance (ma_cons (me_use 0) (ma_cons (me_ty T.b_bool (by decide +kernel)) (ma_nil)))))) (mss_one (ms_raise E_BadTold hr (takes_of (E := E) rfl rfl rfl rfl) (me_use 0))) (mss_nil))
theorem sc_lesser : FnScope ["one", "other"] ["one", "other"] (defScope (topS 32)) := ⟨rfl, rfl, rfl, by decide +kernel, rfl, by decide +kernel, by decide +kernel⟩
theorem ok_lesser {f : Addr} {fd : FuncData} (F : Fun K "lesser" "lesser" (topS 32) f fd) (T : Tx K mg) : FnOk P w K mg base (L2.CX P w) 1 f fd ["one", "other"] (spD K mg 2 den_lesser) := by
  unfold den_lesser body_lesser
  exact def_ok F sc_lesser fun cdv A outer s H E G hr => mss_cons (ms_if (mt_w (mw_or (mt_cmp op_pIs (me_use 0) (me_non) (nomark _)) (mw_or1 (mt_cmp op_pIs (me_use 1) (me_non) (nomark _))))) (mss_one (ms_ret (me_if (mt_cmp op_pIs (me_use 0) (me_non) (nomark _)) (me_use 1) (me_use 0)))) (mss_nil)) (mss_one (ms_ret (me_blt c_min T.b_min (ma_cons (me_use 0) (ma_cons (me_use 1) (ma_nil))))))
theorem sc_missing : FnScope ["fate", "other", "told"] ["fate", "other", "told"] (defScope (topS 34)) := ⟨rfl, rfl, rfl, by decide +kernel, rfl, by decide +kernel, by decide +kernel⟩
theorem ok_missing {f : Addr} {fd : FuncData} (F : Fun K "missing" "missing" (topS 34) f fd) (T : Tx K mg) (D_lesser : Df P w K mg base 1 "lesser" 2 den_lesser) : FnOk P w K mg base (L2.CX P w) 2 f fd ["fate", "other", "told"] (spD K mg 3 den_missing) := by
  unfold den_missing body_missing
  exact def_ok F sc_missing fun cdv A outer s H E G hr => mss_one (ms_ret (me_if (mt_tru (me_use 2)) (me_call D_lesser hr (takes_of (E := E) rfl rfl rfl rfl) (ma_cons (me_ix (me_use 0) (me_int)) (ma_cons (me_ix (me_use 1) (me_int)) (ma_nil)))) (me_ix (me_use 0) (me_int))))
theorem sc_greater : FnScope ["one", "other"] ["one", "other"] (defScope (topS 33)) := ⟨rfl, rfl, rfl, by decide +kernel, rfl, by decide +kernel, by decide +kernel⟩
theorem ok_greater {f : Addr} {fd : FuncData} (F : Fun K "greater" "greater" (topS 33) f fd) (T : Tx K mg) : FnOk P w K mg base (L2.CX P w) 1 f fd ["one", "other"] (spD K mg 2 den_greater) := by
  unfold den_greater body_greater
  exact def_ok F sc_greater fun cdv A outer s H E G hr => mss_one (ms_ret (me_if (mt_w (mw_or (mt_cmp op_pIs (me_use 0) (me_non) (nomark _)) (mw_or1 (mt_cmp op_pIs (me_use 1) (me_non) (nomark _))))) (me_non) (me_blt c_max T.b_max (ma_cons (me_use 0) (ma_cons (me_use 1) (ma_nil))))))
theorem sc_is_bearable_pair : FnScope ["row", "other", "told", "at"] ["row", "other", "told"] (defScope (topS 35)) := ⟨rfl, rfl, rfl, by decide +kernel, rfl, by decide +kernel, by decide +kernel⟩
theorem ok_is_bearable_pair {f : Addr} {fd : FuncData} (F : Fun K "is_bearable_pair" "is_bearable_pair" (topS 35) f fd) (T : Tx K mg) (D_missing : Df P w K mg base 2 "missing" 3 den_missing) (D_greater : Df P w K mg base 1 "greater" 2 den_greater) : FnOk P w K mg base (L2.CX P w) 3 f fd ["row", "other", "told"] (spD K mg 3 den_is_bearable_pair) := by
  unfold den_is_bearable_pair body_is_bearable_pair
  exact def_ok F sc_is_bearable_pair fun cdv A outer s H E G hr => mss_cons (ms_for (passes_of rfl) (mi_range1 T.b_range (ma_cons (me_blt c_len T.b_len (ma_cons (me_use 0) (ma_nil))) (ma_nil))) (mg_name 3 sc_is_bearable_pair.nd) (mss_one (ms_if (mt_w (mw_and (mt_cmp op_pIsNot (me_call D_missing hr (takes_of (E := E) rfl rfl rfl rfl) (ma_cons (me_ix (me_use 0) (me_use 3)) (ma_cons (me_ix (me_use 1) (me_use 3)) (ma_cons (me_use 2) (ma_nil))))) (me_non) (nomark _)) (mw_and1 (mt_cmp op_pIsNot (me_call D_greater hr (takes_of (E := E) rfl rfl rfl rfl) (ma_cons (me_ix (me_ix (me_use 0) (me_use 3)) (me_int)) (ma_cons (me_ix (me_ix (me_use 1) (me_use 3)) (me_int)) (ma_nil)))) (me_non) (nomark _))))) (mss_one (ms_ret (me_bl))) (mss_nil)))) (mss_one (ms_ret (me_bl)))
theorem sc_bearable : FnScope ["ground", "book", "told"] ["ground", "book", "told"] (defScope (topS 36)) := ⟨rfl, rfl, rfl, by decide +kernel, rfl, by decide +kernel, by decide +kernel⟩
theorem ok_bearable {f c : Addr} {oc kV doc pm ct : Value} {od an : Option Addr} {osl : Array (Option Value)} (l : K.lookup f = some ⟨oc, od, .func (PySem.W.fnOf "bearable" "bearable" (defArgs (topS 36)) (defBody (topS 36)) (defScope (topS 36)) .none kV doc pm an (.ref c) ct), osl⟩) (hc : PySem.W.codeIn K (.ref c) "bearable" = true) (T : Tx K mg) {Pt : Addr} (TB : LamX.TabB base mg c Pt) (hmT : (Pt, ("bearable" ++ (".<locals>." : Str) ++ ("<genexpr>" : Str))) ∈ TT) (huT : ∀ p ∈ TT, p.1 = Pt → p.2 = ("bearable" ++ (".<locals>." : Str) ++ ("<genexpr>" : Str))) (D_made_ground : Df P w K mg base 3 "made_ground" 1 den_made_ground) (D_made_book : Df P w K mg base 5 "made_book" 2 den_made_book) (D_shelves : Df P w K mg base 4 "shelves" 1 den_shelves) (D_check_told : Df P w K mg base 3 "check_told" 1 den_check_told) (D_is_bearable_pair : Df P w K mg base 3 "is_bearable_pair" 3 den_is_bearable_pair) : FnOk P w K mg base (L2.CX P w) 7 f (PySem.W.fnOf "bearable" "bearable" (defArgs (topS 36)) (defBody (topS 36)) (defScope (topS 36)) .none kV doc pm an (.ref c) ct) ["ground", "book", "told"] (spDT K mg TT 3 den_bearable) := by
  unfold den_bearable body_bearable
  exact def_okT l hc sc_bearable fun A outer s H E G hT hr => mss_cons (ms_expr (me_call D_made_ground hr (takes_of (E := E) rfl rfl rfl rfl) (ma_cons (me_use 0) (ma_nil)))) (mss_cons (ms_expr (me_call D_made_book hr (takes_of (E := E) rfl rfl rfl rfl) (ma_cons (me_call D_shelves hr (takes_of (E := E) rfl rfl rfl rfl) (ma_cons (me_use 0) (ma_nil))) (ma_cons (me_use 1) (ma_nil))))) (mss_cons (ms_expr (me_call D_check_told hr (takes_of (E := E) rfl rfl rfl rfl) (ma_cons (me_use 2) (ma_nil)))) (mss_one (ms_ret (me_all2 (k := 3) "row" "other" hT hmT huT TB hr T.b_all (N := ["ground", "book", "told"]) (sc := defScope (topS 36)) (by decide +kernel) (mi_val (me_use 1)) (fun A s H cd fp gp G hT hr => ⟨mg_name 0 (show (["row", "other", "ground", "book", "told"] : List Str).Nodup from by decide +kernel), mi_val (me_use 3), mg_name 1 (show (["row", "other", "ground", "book", "told"] : List Str).Nodup from by decide +kernel), me_call D_is_bearable_pair hr takes_no (ma_cons (me_use 0) (ma_cons (me_use 1) (ma_cons (me_use 4) (ma_nil))))⟩))))))
theorem sc_made_charter : FnScope ["thing", "ground", "book"] ["thing"] (defScope (topS 42)) := ⟨rfl, rfl, rfl, by decide +kernel, rfl, by decide +kernel, by decide +kernel⟩
theorem ok_made_charter {f c : Addr} {oc kV doc pm ct : Value} {od an : Option Addr} {osl : Array (Option Value)} (l : K.lookup f = some ⟨oc, od, .func (PySem.W.fnOf "made_charter" "made_charter" (defArgs (topS 42)) (defBody (topS 42)) (defScope (topS 42)) .none kV doc pm an (.ref c) ct), osl⟩) (hc : PySem.W.codeIn K (.ref c) "made_charter" = true) (T : Tx K mg) (D_made_ground : Df P w K mg base 3 "made_ground" 1 den_made_ground) (D_made_book : Df P w K mg base 5 "made_book" 2 den_made_book) (D_shelves : Df P w K mg base 4 "shelves" 1 den_shelves) (D_bearable : DfT P w K mg base TT 7 "bearable" 3 den_bearable) (E_BadCharter : ErC P w K mg base "BadCharter") (E_Hopeless : ErC P w K mg base "Hopeless") : FnOk P w K mg base (L2.CX P w) 8 f (PySem.W.fnOf "made_charter" "made_charter" (defArgs (topS 42)) (defBody (topS 42)) (defScope (topS 42)) .none kV doc pm an (.ref c) ct) ["thing"] (spDT K mg TT 1 den_made_charter) := by
  obtain ⟨t_LEAST_NUMBERS, c_LEAST_NUMBERS⟩ := T.c_LEAST_NUMBERS
  obtain ⟨t_LEAST_PRIME, c_LEAST_PRIME⟩ := T.c_LEAST_PRIME
  unfold den_made_charter body_made_charter
  exact def_okT l hc sc_made_charter fun A outer s H E G hT hr => mss_cons (ms_if (mt_w (mw_or (mt_not (mt_tru (me_blt c_isi T.b_isinstance (ma_cons (me_use 0) (ma_cons (me_ty T.b_tuple (by decide +kernel)) (ma_nil)))))) (mw_or1 (mt_cmp (op_pNe hr) (me_blt c_len T.b_len (ma_cons (me_use 0) (ma_nil))) (me_int) (nomark _))))) (mss_one (ms_raise E_BadCharter hr (takes_of (E := E) rfl rfl rfl rfl) (me_int))) (mss_nil)) (mss_cons (ms_set 1 sc_made_charter.nd (me_call D_made_ground hr (takes_of (E := E) rfl rfl rfl rfl) (ma_cons (me_ix (me_use 0) (me_int)) (ma_nil)))) (mss_cons (ms_set 2 sc_made_charter.nd (me_call D_made_book hr (takes_of (E := E) rfl rfl rfl rfl) (ma_cons (me_call D_shelves hr (takes_of (E := E) rfl rfl rfl rfl) (ma_cons (me_use 1) (ma_nil))) (ma_cons (me_ix (me_use 0) (me_int)) (ma_nil))))) (mss_cons (ms_if (mt_cmp op_pLt (me_ix (me_use 1) (me_int)) (me_gint c_LEAST_PRIME) (nomark _)) (mss_one (ms_raise E_BadCharter hr (takes_of (E := E) rfl rfl rfl rfl) (me_int))) (mss_nil)) (mss_cons (ms_if (mt_cmp op_pLt (me_ix (me_use 1) (me_int)) (me_gint c_LEAST_NUMBERS) (nomark _)) (mss_one (ms_raise E_BadCharter hr (takes_of (E := E) rfl rfl rfl rfl) (me_int))) (mss_nil)) (mss_cons (ms_if (mt_not (mt_tru (me_callT D_bearable hT hr (takes_of (E := E) rfl rfl rfl rfl) (ma_cons (me_use 1) (ma_cons (me_use 2) (ma_cons (me_bl) (ma_nil))))))) (mss_one (ms_raise E_Hopeless hr (takes_of (E := E) rfl rfl rfl rfl) (me_int))) (mss_nil)) (mss_one (ms_ret (me_use 0))))))))
theorem sc_is_charter : FnScope ["thing"] ["thing"] (defScope (topS 43)) := ⟨rfl, rfl, rfl, by decide +kernel, rfl, by decide +kernel, by decide +kernel⟩
theorem ok_is_charter {f c : Addr} {oc kV doc pm ct : Value} {od an : Option Addr} {osl : Array (Option Value)} (l : K.lookup f = some ⟨oc, od, .func (PySem.W.fnOf "is_charter" "is_charter" (defArgs (topS 43)) (defBody (topS 43)) (defScope (topS 43)) .none kV doc pm an (.ref c) ct), osl⟩) (hc : PySem.W.codeIn K (.ref c) "is_charter" = true) (T : Tx K mg) (D_made_charter : DfT P w K mg base TT 8 "made_charter" 1 den_made_charter) (EX : ErX K mg) : FnOk P w K mg base (L2.CX P w) 9 f (PySem.W.fnOf "is_charter" "is_charter" (defArgs (topS 43)) (defBody (topS 43)) (defScope (topS 43)) .none kV doc pm an (.ref c) ct) ["thing"] (spDT K mg TT 1 den_is_charter) := by
  obtain ⟨v_Refused, m_Refused, X_Refused⟩ := EX.n_Refused
  unfold den_is_charter body_is_charter
  exact def_okT l hc sc_is_charter fun A outer s H E G hT hr => mss_cons (ms_try sc_is_charter.nd (takes_of (E := E) rfl rfl rfl rfl) (fun W pn xe tk hp => mss_one (ms_expr (me_callT D_made_charter hT hr tk (ma_cons (me_use 0) (ma_nil))))) (HsOk.bare ⟨rfl, by decide, .inl m_Refused⟩ X_Refused (fun a oe cls b pn c hz hv hm ht => mss_one (ms_ret (me_bl))) (HsOk.nil))) (mss_one (ms_ret (me_bl)))
theorem sc_is_entry : FnScope ["thing", "ahead"] ["thing", "ahead"] (defScope (topS 45)) := ⟨rfl, rfl, rfl, by decide +kernel, rfl, by decide +kernel, by decide +kernel⟩
theorem ok_is_entry {f c : Addr} {oc kV doc pm ct : Value} {od an : Option Addr} {osl : Array (Option Value)} (l : K.lookup f = some ⟨oc, od, .func (PySem.W.fnOf "is_entry" "is_entry" (defArgs (topS 45)) (defBody (topS 45)) (defScope (topS 45)) .none kV doc pm an (.ref c) ct), osl⟩) (hc : PySem.W.codeIn K (.ref c) "is_entry" = true) (T : Tx K mg) (D_is_volume : Df P w K mg base 1 "is_volume" 1 den_is_volume) (D_is_charter : DfT P w K mg base TT 9 "is_charter" 1 den_is_charter) : FnOk P w K mg base (L2.CX P w) 10 f (PySem.W.fnOf "is_entry" "is_entry" (defArgs (topS 45)) (defBody (topS 45)) (defScope (topS 45)) .none kV doc pm an (.ref c) ct) ["thing", "ahead"] (spDT K mg TT 2 den_is_entry) := by
  unfold den_is_entry body_is_entry
  exact def_okT l hc sc_is_entry fun A outer s H E G hT hr => mss_cons (ms_if (mt_w (mw_or (mt_not (mt_tru (me_blt c_isi T.b_isinstance (ma_cons (me_use 0) (ma_cons (me_ty T.b_tuple (by decide +kernel)) (ma_nil)))))) (mw_or1 (mt_cmp (op_pNe hr) (me_blt c_len T.b_len (ma_cons (me_use 0) (ma_nil))) (me_int) (nomark _))))) (mss_one (ms_ret (me_bl))) (mss_nil)) (mss_one (ms_ret (me_and (me_call D_is_volume hr (takes_of (E := E) rfl rfl rfl rfl) (ma_cons (me_ix (me_use 0) (me_int)) (ma_nil))) (me_and (me_cmp op_pGt (me_ix (me_use 0) (me_int)) (me_use 1) (nomark _)) (me_one (me_callT D_is_charter hT hr (takes_of (E := E) rfl rfl rfl rfl) (ma_cons (me_ix (me_use 0) (me_int)) (ma_nil))))))))
theorem sc_made_charters : FnScope ["thing", "ahead", "index"] ["thing"] (defScope (topS 44)) := ⟨rfl, rfl, rfl, by decide +kernel, rfl, by decide +kernel, by decide +kernel⟩
theorem ok_made_charters {f c : Addr} {oc kV doc pm ct : Value} {od an : Option Addr} {osl : Array (Option Value)} (l : K.lookup f = some ⟨oc, od, .func (PySem.W.fnOf "made_charters" "made_charters" (defArgs (topS 44)) (defBody (topS 44)) (defScope (topS 44)) .none kV doc pm an (.ref c) ct), osl⟩) (hc : PySem.W.codeIn K (.ref c) "made_charters" = true) (T : Tx K mg) (D_is_entry : DfT P w K mg base TT 10 "is_entry" 2 den_is_entry) (E_BadCharters : ErC P w K mg base "BadCharters") : FnOk P w K mg base (L2.CX P w) 11 f (PySem.W.fnOf "made_charters" "made_charters" (defArgs (topS 44)) (defBody (topS 44)) (defScope (topS 44)) .none kV doc pm an (.ref c) ct) ["thing"] (spDT K mg TT 1 den_made_charters) := by
  unfold den_made_charters body_made_charters
  exact def_okT l hc sc_made_charters fun A outer s H E G hT hr => mss_cons (ms_if (mt_not (mt_tru (me_blt c_isi T.b_isinstance (ma_cons (me_use 0) (ma_cons (me_ty T.b_tuple (by decide +kernel)) (ma_nil)))))) (mss_one (ms_raise E_BadCharters hr (takes_of (E := E) rfl rfl rfl rfl) (me_neg (me_int)))) (mss_nil)) (mss_cons (ms_set 1 sc_made_charters.nd (me_neg (me_int))) (mss_cons (ms_for (passes_of rfl) (mi_range1 T.b_range (ma_cons (me_blt c_len T.b_len (ma_cons (me_use 0) (ma_nil))) (ma_nil))) (mg_name 2 sc_made_charters.nd) (mss_cons (ms_if (mt_not (mt_tru (me_callT D_is_entry hT hr (takes_of (E := E) rfl rfl rfl rfl) (ma_cons (me_ix (me_use 0) (me_use 2)) (ma_cons (me_use 1) (ma_nil)))))) (mss_one (ms_raise E_BadCharters hr (takes_of (E := E) rfl rfl rfl rfl) (me_use 2))) (mss_nil)) (mss_one (ms_set 1 sc_made_charters.nd (me_ix (me_ix (me_use 0) (me_use 2)) (me_int)))))) (mss_one (ms_ret (me_use 0)))))
theorem sc__law_many_right : FnScope ["_law_pool_here", "_law_good", "_law_bad", "_law_rows", "_law_number", "_law_turn", "_law_at", "_law_wrong_here", "_law_bent"] ["_law_pool_here", "_law_good", "_law_bad"] (defScope (topS 60)) := ⟨rfl, rfl, rfl, by decide +kernel, rfl, by decide +kernel, by decide +kernel⟩
theorem ok__law_many_right {f c : Addr} {oc kV doc pm ct : Value} {od an : Option Addr} {osl : Array (Option Value)} (l : K.lookup f = some ⟨oc, od, .func (PySem.W.fnOf "_law_many_right" "_law_many_right" (defArgs (topS 60)) (defBody (topS 60)) (defScope (topS 60)) .none kV doc pm an (.ref c) ct), osl⟩) (hc : PySem.W.codeIn K (.ref c) "_law_many_right" = true) (T : Tx K mg) {Pt : Addr} (TB : LamX.TabB base mg c Pt) (hmT : (Pt, ("_law_many_right" ++ (".<locals>." : Str) ++ ("<lambda>" : Str))) ∈ TT) (huT : ∀ p ∈ TT, p.1 = Pt → p.2 = ("_law_many_right" ++ (".<locals>." : Str) ++ ("<lambda>" : Str))) (L__law_heard : LDf P w K mg base "_law_heard" den__law_heard) (D__law_draw : Df P w K mg base 1 "_law_draw" 2 den__law_draw) (D_made_charters : DfT P w K mg base TT 11 "made_charters" 1 den_made_charters) (D__law_pick : Df P w K mg base 2 "_law_pick" 2 den__law_pick) : FnOk P w K mg base (L2.CX P w) 14 f (PySem.W.fnOf "_law_many_right" "_law_many_right" (defArgs (topS 60)) (defBody (topS 60)) (defScope (topS 60)) .none kV doc pm an (.ref c) ct) ["_law_pool_here", "_law_good", "_law_bad"] (spDT K mg TT 3 den__law_many_right) := by
  unfold den__law_many_right body__law_many_right
  exact def_okT l hc sc__law_many_right fun A outer s H E G hT hr => mss_cons (ms_ownSet 3 4 sc__law_many_right.nd (mf_disp (ma_nil)) (fun _ => me_call D__law_draw hr takes0 (ma_cons (me_use 0) (ma_cons (me_int) (ma_nil))))) (mss_cons (ms_for (passes_of rfl) (mi_range1 T.b_range (ma_cons (me_call D__law_draw hr (takes_of (E := E) rfl rfl rfl rfl) (ma_cons (me_use 0) (ma_cons (me_int) (ma_nil)))) (ma_nil))) (mg_name 5 sc__law_many_right.nd) (mss_cons (ms_expr (me_mthO (slot := PySem.F.slot_list_append) 3 m_append PySem.F.type_list_append (ma_cons (me_tup (ma_cons (me_use 4) (ma_cons (me_use 1) (ma_nil)))) (ma_nil)))) (mss_one (ms_set 4 sc__law_many_right.nd (me_op op_pAdd (me_op op_pAdd (me_use 4) (me_int)) (me_call D__law_draw hr (takes_of (E := E) rfl rfl rfl rfl) (ma_cons (me_use 0) (ma_cons (me_int) (ma_nil))))))))) (mss_cons (ms_if (mt_w (mw_or (mt_cmp (op_pNe hr) (me_callT D_made_charters hT hr (takes_of (E := E) rfl rfl rfl rfl) (ma_cons (me_bty c_tuple T.b_tuple (ma_cons (me_use 3) (ma_nil))) (ma_nil))) (me_bty c_tuple T.b_tuple (ma_cons (me_use 3) (ma_nil))) (nomark _)) (mw_or1 (mt_cmp (op_pNe hr) (me_lam (k := 11) L__law_heard TB hT hmT huT hr (LamX.LamS.mk (sc := defScope (topS 60)) rfl rfl rfl (by decide +kernel) (by decide +kernel)) (fun A outer s H E f c1 G hT hr => me_callT D_made_charters hT hr (takes_of (E := E) rfl rfl rfl rfl) (ma_cons (me_non) (ma_nil)))) (me_tup (ma_cons (me_str) (ma_cons (me_neg (me_int)) (ma_nil)))) (nomark _))))) (mss_one (ms_ret (me_bl))) (mss_nil)) (mss_cons (ms_set 6 sc__law_many_right.nd (me_call D__law_draw hr (takes_of (E := E) rfl rfl rfl rfl) (ma_cons (me_use 0) (ma_cons (me_op op_pAdd (me_lenO 3 T.b_len) (me_int)) (ma_nil))))) (mss_cons (ms_set 7 sc__law_many_right.nd (me_call D__law_pick hr (takes_of (E := E) rfl rfl rfl rfl) (ma_cons (me_use 0) (ma_cons (me_frz (mf_disp (ma_cons (me_tup (ma_cons (me_neg (me_int)) (ma_cons (me_use 1) (ma_nil)))) (ma_cons (me_tup (ma_cons (me_non) (ma_cons (me_use 1) (ma_nil)))) (ma_cons (me_tup (ma_cons (me_bl) (ma_cons (me_use 1) (ma_nil)))) (ma_cons (me_tup (ma_cons (me_use 4) (ma_cons (me_use 2) (ma_nil)))) (ma_cons (me_tup (ma_cons (me_use 4) (ma_nil))) (ma_cons (me_non) (ma_cons (me_tup (ma_cons (me_use 4) (ma_cons (me_use 1) (ma_cons (me_use 1) (ma_nil))))) (ma_nil)))))))))) (ma_nil))))) (mss_cons (ms_if (mt_w (mw_and (mt_cmp op_pGt (me_use 6) (me_int) (nomark _)) (mw_and1 (mt_cmp (op_pEq hr) (me_call D__law_draw hr (takes_of (E := E) rfl rfl rfl rfl) (ma_cons (me_use 0) (ma_cons (me_int) (ma_nil)))) (me_int) (nomark _))))) (mss_one (ms_set 7 sc__law_many_right.nd (me_tup (ma_cons (me_ix (me_ixO 3 (me_op op_pSub (me_use 6) (me_int))) (me_int)) (ma_cons (me_use 1) (ma_nil)))))) (mss_nil)) (mss_cons (ms_set 8 sc__law_many_right.nd (me_op op_pAdd (me_op op_pAdd (me_cut (me_use 3) (mo_none) (mo_some (me_use 6))) (me_frz (mf_disp (ma_cons (me_use 7) (ma_nil))))) (me_cut (me_use 3) (mo_some (me_use 6)) (mo_none)))) (mss_one (ms_ret (me_cmp (op_pEq hr) (me_lam (k := 11) L__law_heard TB hT hmT huT hr (LamX.LamS.mk (sc := defScope (topS 60)) rfl rfl rfl (by decide +kernel) (by decide +kernel)) (fun A outer s H E f c1 G hT hr => me_callT D_made_charters hT hr (takes_of (E := E) rfl rfl rfl rfl) (ma_cons (me_bty c_tuple T.b_tuple (ma_cons (me_use 8) (ma_nil))) (ma_nil)))) (me_tup (ma_cons (me_str) (ma_cons (me_use 6) (ma_nil)))) (nomark _))))))))))
theorem sc__law_bound : FnScope ["_law_pool_here"] ["_law_pool_here"] (defScope (topS 51)) := ⟨rfl, rfl, rfl, by decide +kernel, rfl, by decide +kernel, by decide +kernel⟩
theorem ok__law_bound {f : Addr} {fd : FuncData} (F : Fun K "_law_bound" "_law_bound" (topS 51) f fd) (T : Tx K mg) (D__law_pick : Df P w K mg base 2 "_law_pick" 2 den__law_pick) : FnOk P w K mg base (L2.CX P w) 3 f fd ["_law_pool_here"] (spD K mg 1 den__law_bound) := by
  unfold den__law_bound body__law_bound
  exact def_ok F sc__law_bound fun cdv A outer s H E G hr => mss_one (ms_ret (me_call D__law_pick hr (takes_of (E := E) rfl rfl rfl rfl) (ma_cons (me_use 0) (ma_cons (me_frz (mf_disp (ma_cons (me_int) (ma_cons (me_int) (ma_cons (me_int) (ma_cons (me_int) (ma_cons (me_int) (ma_cons (me_int) (ma_cons (me_int) (ma_cons (me_non) (ma_nil))))))))))) (ma_nil)))))
theorem sc__law_row : FnScope ["_law_pool_here", "_law_many", "_law_shelf", "_law_struck", "_law_turn"] ["_law_pool_here", "_law_many"] (defScope (topS 52)) := ⟨rfl, rfl, rfl, by decide +kernel, rfl, by decide +kernel, by decide +kernel⟩
theorem ok__law_row {f : Addr} {fd : FuncData} (F : Fun K "_law_row" "_law_row" (topS 52) f fd) (T : Tx K mg) (D__law_draw : Df P w K mg base 1 "_law_draw" 2 den__law_draw) (D__law_bound : Df P w K mg base 3 "_law_bound" 1 den__law_bound) : FnOk P w K mg base (L2.CX P w) 4 f fd ["_law_pool_here", "_law_many"] (spD K mg 2 den__law_row) := by
  unfold den__law_row body__law_row
  exact def_ok F sc__law_row fun cdv A outer s H E G hr => mss_cons (ms_if (mt_cmp (op_pEq hr) (me_call D__law_draw hr (takes_of (E := E) rfl rfl rfl rfl) (ma_cons (me_use 0) (ma_cons (me_int) (ma_nil)))) (me_int) (nomark _)) (mss_one (ms_ret (me_bty c_tuple T.b_tuple (ma_cons (me_frz (mf_comp (N := ["_law_pool_here", "_law_many", "_law_shelf", "_law_struck", "_law_turn"]) (sc := defScope (topS 52)) [("_law_shelf", 2)] sc__law_row.nd (mi_range1 T.b_range (ma_cons (me_use 1) (ma_nil))) (by decide +kernel) (fun _ _ _ _ _ => mgc_name 2 sc__law_row.nd) (fun _ _ _ _ _ => mts_nil) (fun _ _ _ _ _ _ => me_tup (ma_cons (me_call D__law_bound hr takes0 (ma_cons (me_use 0) (ma_nil))) (ma_cons (me_call D__law_bound hr takes0 (ma_cons (me_use 0) (ma_nil))) (ma_nil)))))) (ma_nil))))) (mss_nil)) (mss_cons (ms_set 3 sc__law_row.nd (me_frz (mf_comp (N := ["_law_pool_here", "_law_many", "_law_shelf", "_law_struck", "_law_turn"]) (sc := defScope (topS 52)) [("_law_turn", 4)] sc__law_row.nd (mi_range1 T.b_range (ma_cons (me_op op_pAdd (me_int) (me_call D__law_draw hr (takes_of (E := E) rfl rfl rfl rfl) (ma_cons (me_use 0) (ma_cons (me_int) (ma_nil))))) (ma_nil))) (by decide +kernel) (fun _ _ _ _ _ => mgc_name 4 sc__law_row.nd) (fun _ _ _ _ _ => mts_nil) (fun _ _ _ _ _ _ => me_call D__law_draw hr takes0 (ma_cons (me_use 0) (ma_cons (me_use 1) (ma_nil))))))) (mss_one (ms_ret (me_bty c_tuple T.b_tuple (ma_cons (me_frz (mf_comp (N := ["_law_pool_here", "_law_many", "_law_shelf", "_law_struck", "_law_turn"]) (sc := defScope (topS 52)) [("_law_shelf", 2)] sc__law_row.nd (mi_range1 T.b_range (ma_cons (me_use 1) (ma_nil))) (by decide +kernel) (fun _ _ _ _ _ => mgc_name 2 sc__law_row.nd) (fun _ _ _ _ _ => mts_nil) (fun _ _ _ _ _ _ => me_if (mt_cmp (op_pInA hr) (me_use 2) (me_use 3) (by with_unfolding_all rfl)) (me_tup (ma_cons (me_call D__law_bound hr takes0 (ma_cons (me_use 0) (ma_nil))) (ma_cons (me_call D__law_bound hr takes0 (ma_cons (me_use 0) (ma_nil))) (ma_nil)))) (me_tup (ma_cons (me_int) (ma_cons (me_int) (ma_nil))))))) (ma_nil))))))
theorem sc__law_book : FnScope ["_law_pool_here", "_law_many", "_law_way", "_law_fate", "_law_shelf", "_law_other", "_law_turn"] ["_law_pool_here", "_law_many"] (defScope (topS 53)) := ⟨rfl, rfl, rfl, by decide +kernel, rfl, by decide +kernel, by decide +kernel⟩
theorem ok__law_book {f : Addr} {fd : FuncData} (F : Fun K "_law_book" "_law_book" (topS 53) f fd) (T : Tx K mg) (D__law_draw : Df P w K mg base 1 "_law_draw" 2 den__law_draw) (D__law_row : Df P w K mg base 4 "_law_row" 2 den__law_row) : FnOk P w K mg base (L2.CX P w) 5 f fd ["_law_pool_here", "_law_many"] (spD K mg 2 den__law_book) := by
  unfold den__law_book body__law_book
  exact def_ok F sc__law_book fun cdv A outer s H E G hr => mss_cons (ms_set 2 sc__law_book.nd (me_call D__law_draw hr (takes_of (E := E) rfl rfl rfl rfl) (ma_cons (me_use 0) (ma_cons (me_int) (ma_nil))))) (mss_cons (ms_if (mt_cmp op_pLt (me_use 2) (me_int) (nomark _)) (mss_cons (ms_set 3 sc__law_book.nd (me_ix (me_frz (mf_disp (ma_cons (me_tup (ma_cons (me_non) (ma_cons (me_int) (ma_nil)))) (ma_cons (me_tup (ma_cons (me_int) (ma_cons (me_non) (ma_nil)))) (ma_nil))))) (me_use 2))) (mss_one (ms_ret (me_bty c_tuple T.b_tuple (ma_cons (me_frz (mf_comp (N := ["_law_pool_here", "_law_many", "_law_way", "_law_fate", "_law_shelf", "_law_other", "_law_turn"]) (sc := defScope (topS 53)) [("_law_other", 5)] sc__law_book.nd (mi_range1 T.b_range (ma_cons (me_use 1) (ma_nil))) (by decide +kernel) (fun _ _ _ _ _ => mgc_name 5 sc__law_book.nd) (fun _ _ _ _ _ => mts_nil) (fun _ _ _ _ _ _ => me_bty c_tuple T.b_tuple (ma_cons (me_frz (mf_comp (N := ["_law_pool_here", "_law_many", "_law_way", "_law_fate", "_law_shelf", "_law_other", "_law_turn"]) (sc := { kind := .function, names := [(".0", .local), ("_law_other", .cell), ("tuple", .globalImplicit), ("range", .globalImplicit), ("_law_fate", .cell), ("_law_many", .cell)], isGenerator := false, isCoroutine := false }) [("_law_shelf", 4)] sc__law_book.nd (mi_range1 T.b_range (ma_cons (me_use 1) (ma_nil))) (by decide +kernel) (fun _ _ _ _ _ => mgc_name 4 sc__law_book.nd) (fun _ _ _ _ _ => mts_nil) (fun _ _ _ _ _ _ => me_if (mt_cmp (op_pEq hr) (me_use 4) (me_use 5) (nomark _)) (me_use 3) (me_tup (ma_cons (me_int) (ma_cons (me_int) (ma_nil))))))) (ma_nil))))) (ma_nil)))))) (mss_nil)) (mss_one (ms_ret (me_bty c_tuple T.b_tuple (ma_cons (me_frz (mf_comp (N := ["_law_pool_here", "_law_many", "_law_way", "_law_fate", "_law_shelf", "_law_other", "_law_turn"]) (sc := defScope (topS 53)) [("_law_turn", 6)] sc__law_book.nd (mi_range1 T.b_range (ma_cons (me_op op_pAdd (me_int) (me_call D__law_draw hr (takes_of (E := E) rfl rfl rfl rfl) (ma_cons (me_use 0) (ma_cons (me_int) (ma_nil))))) (ma_nil))) (by decide +kernel) (fun _ _ _ _ _ => mgc_name 6 sc__law_book.nd) (fun _ _ _ _ _ => mts_nil) (fun _ _ _ _ _ _ => me_call D__law_row hr takes0 (ma_cons (me_use 0) (ma_cons (me_use 1) (ma_nil)))))) (ma_nil))))))
theorem sc__law_turned : FnScope ["_law_pool_here", "_law_many", "_law_left", "_law_found", "_law_turn"] ["_law_pool_here", "_law_many"] (defScope (topS 54)) := ⟨rfl, rfl, rfl, by decide +kernel, rfl, by decide +kernel, by decide +kernel⟩
theorem ok__law_turned {f : Addr} {fd : FuncData} (F : Fun K "_law_turned" "_law_turned" (topS 54) f fd) (T : Tx K mg) (D__law_draw : Df P w K mg base 1 "_law_draw" 2 den__law_draw) : FnOk P w K mg base (L2.CX P w) 2 f fd ["_law_pool_here", "_law_many"] (spD K mg 2 den__law_turned) := by
  unfold den__law_turned body__law_turned
  exact def_ok F sc__law_turned fun cdv A outer s H E G hr => mss_cons (ms_ownNil 2 3 sc__law_turned.nd (mf_listRg1 (me_use 1) T.b_list T.b_range)) (mss_cons (ms_for (passes_of rfl) (mi_range1 T.b_range (ma_cons (me_use 1) (ma_nil))) (mg_name 4 sc__law_turned.nd) (mss_one (ms_expr (me_mthO (slot := PySem.F.slot_list_append) 3 m_append PySem.F.type_list_append (ma_cons (me_mthO (slot := PySem.F.slot_list_pop) 2 m_popAt PySem.F.type_list_pop (ma_cons (me_call D__law_draw hr (takes_of (E := E) rfl rfl rfl rfl) (ma_cons (me_use 0) (ma_cons (me_lenO 2 T.b_len) (ma_nil)))) (ma_nil))) (ma_nil)))))) (mss_one (ms_ret (me_use 3))))
theorem sc__law_pair : FnScope ["_law_pool_here", "_law_p", "_law_many", "_law_points"] ["_law_pool_here"] (defScope (topS 58)) := ⟨rfl, rfl, rfl, by decide +kernel, rfl, by decide +kernel, by decide +kernel⟩
theorem ok__law_pair {f : Addr} {fd : FuncData} (F : Fun K "_law_pair" "_law_pair" (topS 58) f fd) (T : Tx K mg) (D__law_pick : Df P w K mg base 2 "_law_pick" 2 den__law_pick) (D__law_draw : Df P w K mg base 1 "_law_draw" 2 den__law_draw) (D__law_turned : Df P w K mg base 2 "_law_turned" 2 den__law_turned) (D__law_book : Df P w K mg base 5 "_law_book" 2 den__law_book) : FnOk P w K mg base (L2.CX P w) 6 f fd ["_law_pool_here"] (spD K mg 1 den__law_pair) := by
  unfold den__law_pair body__law_pair
  exact def_ok F sc__law_pair fun cdv A outer s H E G hr => mss_cons (ms_set 1 sc__law_pair.nd (me_call D__law_pick hr (takes_of (E := E) rfl rfl rfl rfl) (ma_cons (me_use 0) (ma_cons (me_frz (mf_disp (ma_cons (me_int) (ma_cons (me_int) (ma_cons (me_int) (ma_cons (me_int) (ma_cons (me_int) (ma_cons (me_int) (ma_nil))))))))) (ma_nil))))) (mss_cons (ms_set 2 sc__law_pair.nd (me_blt c_min T.b_min (ma_cons (me_op op_pAdd (me_use 1) (me_int)) (ma_cons (me_op op_pAdd (me_int) (me_call D__law_draw hr (takes_of (E := E) rfl rfl rfl rfl) (ma_cons (me_use 0) (ma_cons (me_int) (ma_nil))))) (ma_nil))))) (mss_cons (ms_set 3 sc__law_pair.nd (me_if (mt_cmp (op_pEq hr) (me_use 2) (me_int) (nomark _)) (me_bty c_tuple T.b_tuple (ma_cons (me_frz (mf_disp (ma_cons (me_ix (me_call D__law_turned hr (takes_of (E := E) rfl rfl rfl rfl) (ma_cons (me_use 0) (ma_cons (me_blt c_min T.b_min (ma_cons (me_op op_pAdd (me_use 1) (me_int)) (ma_cons (me_int) (ma_nil)))) (ma_nil)))) (me_int)) (ma_nil)))) (ma_nil))) (me_bty c_tuple T.b_tuple (ma_cons (me_cut (me_call D__law_turned hr (takes_of (E := E) rfl rfl rfl rfl) (ma_cons (me_use 0) (ma_cons (me_blt c_min T.b_min (ma_cons (me_op op_pAdd (me_use 1) (me_int)) (ma_cons (me_int) (ma_nil)))) (ma_nil)))) (mo_none) (mo_some (me_use 2))) (ma_nil))))) (mss_cons (ms_if (mt_w (mw_and (mt_cmp (op_pNotInA hr) (me_use 1) (me_use 3) (by with_unfolding_all rfl)) (mw_and1 (mt_cmp (op_pEq hr) (me_call D__law_draw hr (takes_of (E := E) rfl rfl rfl rfl) (ma_cons (me_use 0) (ma_cons (me_int) (ma_nil)))) (me_int) (nomark _))))) (mss_one (ms_set 3 sc__law_pair.nd (me_op op_pAdd (me_cut (me_use 3) (mo_none) (mo_some (me_neg (me_int)))) (me_tup (ma_cons (me_use 1) (ma_nil)))))) (mss_nil)) (mss_one (ms_ret (me_tup (ma_cons (me_tup (ma_cons (me_use 1) (ma_cons (me_op op_pAdd (me_int) (me_call D__law_draw hr (takes_of (E := E) rfl rfl rfl rfl) (ma_cons (me_use 0) (ma_cons (me_int) (ma_nil))))) (ma_cons (me_use 3) (ma_nil))))) (ma_cons (me_call D__law_book hr (takes_of (E := E) rfl rfl rfl rfl) (ma_cons (me_use 0) (ma_cons (me_use 2) (ma_nil)))) (ma_nil)))))))))
theorem sc__law_wrong : FnScope ["_law_pool_here", "_law_ground", "_law_book_here", "_law_way", "_law_at", "_law_row_here"] ["_law_pool_here", "_law_ground", "_law_book_here"] (defScope (topS 59)) := ⟨rfl, rfl, rfl, by decide +kernel, rfl, by decide +kernel, by decide +kernel⟩
theorem ok__law_wrong {f : Addr} {fd : FuncData} (F : Fun K "_law_wrong" "_law_wrong" (topS 59) f fd) (T : Tx K mg) (D__law_draw : Df P w K mg base 1 "_law_draw" 2 den__law_draw) (D__law_pick : Df P w K mg base 2 "_law_pick" 2 den__law_pick) : FnOk P w K mg base (L2.CX P w) 3 f fd ["_law_pool_here", "_law_ground", "_law_book_here"] (spD K mg 3 den__law_wrong) := by
  unfold den__law_wrong body__law_wrong
  exact def_ok F sc__law_wrong fun cdv A outer s H E G hr => mss_cons (ms_set 3 sc__law_wrong.nd (me_call D__law_draw hr (takes_of (E := E) rfl rfl rfl rfl) (ma_cons (me_use 0) (ma_cons (me_int) (ma_nil))))) (mss_cons (ms_if (mt_cmp (op_pEq hr) (me_use 3) (me_int) (nomark _)) (mss_one (ms_ret (me_tup (ma_cons (me_call D__law_pick hr (takes_of (E := E) rfl rfl rfl rfl) (ma_cons (me_use 0) (ma_cons (me_frz (mf_disp (ma_cons (me_non) (ma_cons (me_tup (ma_nil)) (ma_cons (me_tup (ma_cons (me_use 1) (ma_nil))) (ma_cons (me_tup (ma_cons (me_use 1) (ma_cons (me_use 2) (ma_cons (me_use 2) (ma_nil))))) (ma_cons (me_int) (ma_nil)))))))) (ma_nil)))) (ma_cons (me_tup (ma_cons (me_str) (ma_cons (me_int) (ma_nil)))) (ma_nil)))))) (mss_nil)) (mss_cons (ms_if (mt_cmp (op_pEq hr) (me_use 3) (me_int) (nomark _)) (mss_one (ms_ret (me_tup (ma_cons (me_tup (ma_cons (me_call D__law_pick hr (takes_of (E := E) rfl rfl rfl rfl) (ma_cons (me_use 0) (ma_cons (me_frz (mf_disp (ma_cons (me_non) (ma_cons (me_tup (ma_nil)) (ma_cons (me_cut (me_use 1) (mo_none) (mo_some (me_int))) (ma_cons (me_int) (ma_nil))))))) (ma_nil)))) (ma_cons (me_use 2) (ma_nil)))) (ma_cons (me_tup (ma_cons (me_str) (ma_cons (me_neg (me_int)) (ma_nil)))) (ma_nil)))))) (mss_nil)) (mss_cons (ms_if (mt_cmp (op_pEq hr) (me_use 3) (me_int) (nomark _)) (mss_one (ms_ret (me_tup (ma_cons (me_tup (ma_cons (me_op op_pAdd (me_tup (ma_cons (me_call D__law_pick hr (takes_of (E := E) rfl rfl rfl rfl) (ma_cons (me_use 0) (ma_cons (me_frz (mf_disp (ma_cons (me_int) (ma_cons (me_int) (ma_cons (me_bl) (ma_cons (me_non) (ma_cons (me_int) (ma_nil)))))))) (ma_nil)))) (ma_nil))) (me_cut (me_use 1) (mo_some (me_int)) (mo_none))) (ma_cons (me_tup (ma_nil)) (ma_nil)))) (ma_cons (me_tup (ma_cons (me_str) (ma_cons (me_int) (ma_nil)))) (ma_nil)))))) (mss_nil)) (mss_cons (ms_if (mt_cmp (op_pEq hr) (me_use 3) (me_int) (nomark _)) (mss_one (ms_ret (me_tup (ma_cons (me_tup (ma_cons (me_tup (ma_cons (me_ix (me_use 1) (me_int)) (ma_cons (me_call D__law_pick hr (takes_of (E := E) rfl rfl rfl rfl) (ma_cons (me_use 0) (ma_cons (me_frz (mf_disp (ma_cons (me_int) (ma_cons (me_int) (ma_cons (me_bl) (ma_cons (me_non) (ma_nil))))))) (ma_nil)))) (ma_cons (me_ix (me_use 1) (me_int)) (ma_nil))))) (ma_cons (me_non) (ma_nil)))) (ma_cons (me_tup (ma_cons (me_str) (ma_cons (me_int) (ma_nil)))) (ma_nil)))))) (mss_nil)) (mss_cons (ms_if (mt_cmp (op_pEq hr) (me_use 3) (me_int) (nomark _)) (mss_one (ms_ret (me_tup (ma_cons (me_tup (ma_cons (me_tup (ma_cons (me_ix (me_use 1) (me_int)) (ma_cons (me_ix (me_use 1) (me_int)) (ma_cons (me_call D__law_pick hr (takes_of (E := E) rfl rfl rfl rfl) (ma_cons (me_use 0) (ma_cons (me_frz (mf_disp (ma_cons (me_tup (ma_nil)) (ma_cons (me_tup (ma_cons (me_op op_pAdd (me_ix (me_use 1) (me_int)) (me_int)) (ma_nil))) (ma_cons (me_op op_pAdd (me_ix (me_use 1) (me_int)) (me_cut (me_ix (me_use 1) (me_int)) (mo_none) (mo_some (me_int)))) (ma_cons (me_non) (ma_nil))))))) (ma_nil)))) (ma_nil))))) (ma_cons (me_use 2) (ma_nil)))) (ma_cons (me_tup (ma_cons (me_str) (ma_cons (me_int) (ma_nil)))) (ma_nil)))))) (mss_nil)) (mss_cons (ms_if (mt_cmp (op_pEq hr) (me_use 3) (me_int) (nomark _)) (mss_one (ms_ret (me_tup (ma_cons (me_tup (ma_cons (me_use 1) (ma_cons (me_call D__law_pick hr (takes_of (E := E) rfl rfl rfl rfl) (ma_cons (me_use 0) (ma_cons (me_frz (mf_disp (ma_cons (me_non) (ma_cons (me_tup (ma_nil)) (ma_cons (me_int) (ma_nil)))))) (ma_nil)))) (ma_nil)))) (ma_cons (me_tup (ma_cons (me_str) (ma_cons (me_neg (me_int)) (ma_nil)))) (ma_nil)))))) (mss_nil)) (mss_cons (ms_if (mt_cmp (op_pEq hr) (me_use 3) (me_int) (nomark _)) (mss_one (ms_ret (me_tup (ma_cons (me_tup (ma_cons (me_use 1) (ma_cons (me_op op_pMulA (me_cut (me_use 2) (mo_none) (mo_some (me_int))) (me_int)) (ma_nil)))) (ma_cons (me_tup (ma_cons (me_str) (ma_cons (me_int) (ma_nil)))) (ma_nil)))))) (mss_nil)) (mss_cons (ms_set 4 sc__law_wrong.nd (me_call D__law_draw hr (takes_of (E := E) rfl rfl rfl rfl) (ma_cons (me_use 0) (ma_cons (me_blt c_len T.b_len (ma_cons (me_use 2) (ma_nil))) (ma_nil))))) (mss_cons (ms_set 5 sc__law_wrong.nd (me_call D__law_pick hr (takes_of (E := E) rfl rfl rfl rfl) (ma_cons (me_use 0) (ma_cons (me_frz (mf_disp (ma_cons (me_non) (ma_cons (me_op op_pAdd (me_ix (me_use 2) (me_use 4)) (me_tup (ma_cons (me_tup (ma_cons (me_int) (ma_cons (me_int) (ma_nil)))) (ma_nil)))) (ma_cons (me_op op_pAdd (me_tup (ma_cons (me_tup (ma_cons (me_int) (ma_cons (me_int) (ma_nil)))) (ma_nil))) (me_cut (me_ix (me_use 2) (me_use 4)) (mo_some (me_int)) (mo_none))) (ma_cons (me_op op_pAdd (me_tup (ma_cons (me_tup (ma_cons (me_int) (ma_cons (me_neg (me_int)) (ma_nil)))) (ma_nil))) (me_cut (me_ix (me_use 2) (me_use 4)) (mo_some (me_int)) (mo_none))) (ma_cons (me_op op_pAdd (me_tup (ma_cons (me_tup (ma_cons (me_int) (ma_nil))) (ma_nil))) (me_cut (me_ix (me_use 2) (me_use 4)) (mo_some (me_int)) (mo_none))) (ma_nil)))))))) (ma_nil))))) (mss_one (ms_ret (me_tup (ma_cons (me_tup (ma_cons (me_use 1) (ma_cons (me_op op_pAdd (me_op op_pAdd (me_cut (me_use 2) (mo_none) (mo_some (me_use 4))) (me_tup (ma_cons (me_use 5) (ma_nil)))) (me_cut (me_use 2) (mo_some (me_op op_pAdd (me_use 4) (me_int))) (mo_none))) (ma_nil)))) (ma_cons (me_tup (ma_cons (me_str) (ma_cons (me_use 4) (ma_nil)))) (ma_nil)))))))))))))))
theorem sc__law_is_told : FnScope ["_law_thing", "_law_due_here", "_law_told"] ["_law_thing", "_law_due_here"] (defScope (topS 56)) := ⟨rfl, rfl, rfl, by decide +kernel, rfl, by decide +kernel, by decide +kernel⟩
theorem ok__law_is_told {f c : Addr} {oc kV doc pm ct : Value} {od an : Option Addr} {osl : Array (Option Value)} (l : K.lookup f = some ⟨oc, od, .func (PySem.W.fnOf "_law_is_told" "_law_is_told" (defArgs (topS 56)) (defBody (topS 56)) (defScope (topS 56)) .none kV doc pm an (.ref c) ct), osl⟩) (hc : PySem.W.codeIn K (.ref c) "_law_is_told" = true) (T : Tx K mg) {Pt : Addr} (TB : LamX.TabB base mg c Pt) (hmT : (Pt, ("_law_is_told" ++ (".<locals>." : Str) ++ ("<lambda>" : Str))) ∈ TT) (huT : ∀ p ∈ TT, p.1 = Pt → p.2 = ("_law_is_told" ++ (".<locals>." : Str) ++ ("<lambda>" : Str))) (L__law_heard : LDf P w K mg base "_law_heard" den__law_heard) (D_is_charter : DfT P w K mg base TT 9 "is_charter" 1 den_is_charter) (D_made_charter : DfT P w K mg base TT 8 "made_charter" 1 den_made_charter) : FnOk P w K mg base (L2.CX P w) 11 f (PySem.W.fnOf "_law_is_told" "_law_is_told" (defArgs (topS 56)) (defBody (topS 56)) (defScope (topS 56)) .none kV doc pm an (.ref c) ct) ["_law_thing", "_law_due_here"] (spDT K mg TT 2 den__law_is_told) := by
  unfold den__law_is_told body__law_is_told
  exact def_okT l hc sc__law_is_told fun A outer s H E G hT hr => mss_cons (ms_set 2 sc__law_is_told.nd (me_callT D_is_charter hT hr (takes_of (E := E) rfl rfl rfl rfl) (ma_cons (me_use 0) (ma_nil)))) (mss_cons (ms_if (mt_w (mw_or (mt_not (mt_tru (me_blt c_isi T.b_isinstance (ma_cons (me_use 2) (ma_cons (me_ty T.b_bool (by decide +kernel)) (ma_nil)))))) (mw_or (mt_cmp (op_pNe hr) (me_use 2) (me_cmp op_pIs (me_use 1) (me_non) (nomark _)) (nomark _)) (mw_or1 (mt_cmp (op_pNe hr) (me_lam (k := 8) L__law_heard TB hT hmT huT hr (LamX.LamS.mk (sc := defScope (topS 56)) rfl rfl rfl (by decide +kernel) (by decide +kernel)) (fun A outer s H E f c1 G hT hr => me_callT D_made_charter hT hr (takes_of (E := E) rfl rfl rfl rfl) (ma_cons (me_use 0) (ma_nil)))) (me_use 1) (nomark _)))))) (mss_one (ms_ret (me_bl))) (mss_nil)) (mss_one (ms_ret (me_or (me_cmp op_pIsNot (me_use 1) (me_non) (nomark _)) (me_one (me_cmp (op_pEq hr) (me_callT D_made_charter hT hr (takes_of (E := E) rfl rfl rfl rfl) (ma_cons (me_use 0) (ma_nil))) (me_use 0) (nomark _)))))))
theorem sc__law_bearable : FnScope ["_law_book_here", "_law_one", "_law_other", "_law_both", "_law_fate", "_law_second"] ["_law_book_here"] (defScope (topS 50)) := ⟨rfl, rfl, rfl, by decide +kernel, rfl, by decide +kernel, by decide +kernel⟩
theorem ok__law_bearable {f : Addr} {fd : FuncData} (F : Fun K "_law_bearable" "_law_bearable" (topS 50) f fd) (T : Tx K mg) : FnOk P w K mg base (L2.CX P w) 1 f fd ["_law_book_here"] (spD K mg 1 den__law_bearable) := by
  unfold den__law_bearable body__law_bearable
  exact def_ok F sc__law_bearable fun cdv A outer s H E G hr => mss_cons (ms_for (passes_of rfl) (mi_val (me_use 0)) (mg_name 1 sc__law_bearable.nd) (mss_one (ms_for (passes_of rfl) (mi_val (me_use 0)) (mg_name 2 sc__law_bearable.nd) (mss_cons (ms_comp (N := ["_law_book_here", "_law_one", "_law_other", "_law_both", "_law_fate", "_law_second"]) (sc := defScope (topS 50)) 3 [("_law_fate", 4), ("_law_second", 5)] sc__law_bearable.nd (mi_zipM T.b_zip (ma_cons (me_use 1) (ma_cons (me_use 2) (ma_nil)))) (by decide +kernel) (fun _ _ _ _ _ => mgc_tup (mgcs_cons (mgc_name 4 sc__law_bearable.nd) (mgcs_cons (mgc_name 5 sc__law_bearable.nd) (mgcs_nil)))) (fun _ _ _ _ _ => mts_one (fun _ => mt_w (mw_and (mt_cmp op_pIsNot (me_ix (me_use 4) (me_int)) (me_non) (nomark _)) (mw_and (mt_cmp op_pIsNot (me_ix (me_use 4) (me_int)) (me_non) (nomark _)) (mw_and1 (mt_cmp op_pIsNot (me_ix (me_use 5) (me_int)) (me_non) (nomark _))))))) (fun _ _ _ _ _ _ => me_int)) (mss_one (ms_if (mt_cmp (op_pEq hr) (me_use 3) (me_frz (mf_disp (ma_nil))) (nomark _)) (mss_one (ms_ret (me_bl))) (mss_nil))))))) (mss_one (ms_ret (me_bl)))
theorem sc__law_due : FnScope ["_law_ground", "_law_book_here"] ["_law_ground", "_law_book_here"] (defScope (topS 57)) := ⟨rfl, rfl, rfl, by decide +kernel, rfl, by decide +kernel, by decide +kernel⟩
theorem ok__law_due {f : Addr} {fd : FuncData} (F : Fun K "_law_due" "_law_due" (topS 57) f fd) (T : Tx K mg) (D__law_bearable : Df P w K mg base 1 "_law_bearable" 1 den__law_bearable) : FnOk P w K mg base (L2.CX P w) 2 f fd ["_law_ground", "_law_book_here"] (spD K mg 2 den__law_due) := by
  unfold den__law_due body__law_due
  exact def_ok F sc__law_due fun cdv A outer s H E G hr => mss_cons (ms_if (mt_cmp op_pLt (me_ix (me_use 0) (me_int)) (me_int) (nomark _)) (mss_one (ms_ret (me_tup (ma_cons (me_str) (ma_cons (me_int) (ma_nil)))))) (mss_nil)) (mss_cons (ms_if (mt_cmp op_pLt (me_ix (me_use 0) (me_int)) (me_int) (nomark _)) (mss_one (ms_ret (me_tup (ma_cons (me_str) (ma_cons (me_int) (ma_nil)))))) (mss_nil)) (mss_one (ms_ret (me_if (mt_tru (me_call D__law_bearable hr (takes_of (E := E) rfl rfl rfl rfl) (ma_cons (me_use 1) (ma_nil)))) (me_non) (me_tup (ma_cons (me_str) (ma_cons (me_int) (ma_nil))))))))
theorem sc_law : FnScope ["_law_script", "_law_pool_here", "_law_plain", "_law_turned_here", "_law_turn", "_law_ground", "_law_book_here", "_law_thing", "_law_due_here"] ["_law_script"] (defScope (topS 61)) := ⟨rfl, rfl, rfl, by decide +kernel, rfl, by decide +kernel, by decide +kernel⟩
theorem ok_law {f c : Addr} {oc kV doc pm ct : Value} {od an : Option Addr} {osl : Array (Option Value)} (l : K.lookup f = some ⟨oc, od, .func (PySem.W.fnOf "law" "law" (defArgs (topS 61)) (defBody (topS 61)) (defScope (topS 61)) .none kV doc pm an (.ref c) ct), osl⟩) (hc : PySem.W.codeIn K (.ref c) "law" = true) (T : Tx K mg) (D__law_pool : Df P w K mg base 1 "_law_pool" 1 den__law_pool) (D__law_is_told : DfT P w K mg base TT 11 "_law_is_told" 2 den__law_is_told) (D__law_pair : Df P w K mg base 6 "_law_pair" 1 den__law_pair) (D__law_due : Df P w K mg base 2 "_law_due" 2 den__law_due) (D__law_wrong : Df P w K mg base 3 "_law_wrong" 3 den__law_wrong) (D__law_many_right : DfT P w K mg base TT 14 "_law_many_right" 3 den__law_many_right) : FnOk P w K mg base (L2.CX P w) 15 f (PySem.W.fnOf "law" "law" (defArgs (topS 61)) (defBody (topS 61)) (defScope (topS 61)) .none kV doc pm an (.ref c) ct) ["_law_script"] (spDT K mg TT 1 den_law) := by
  unfold den_law body_law
  exact def_okT l hc sc_law fun A outer s H E G hT hr => mss_cons (ms_set 1 sc_law.nd (me_call D__law_pool hr (takes_of (E := E) rfl rfl rfl rfl) (ma_cons (me_use 0) (ma_nil)))) (mss_cons (ms_set 2 sc_law.nd (me_tup (ma_cons (me_tup (ma_cons (me_int) (ma_cons (me_int) (ma_cons (me_tup (ma_cons (me_int) (ma_cons (me_int) (ma_cons (me_int) (ma_nil))))) (ma_nil))))) (ma_cons (me_tup (ma_cons (me_tup (ma_cons (me_tup (ma_cons (me_non) (ma_cons (me_int) (ma_nil)))) (ma_cons (me_tup (ma_cons (me_int) (ma_cons (me_int) (ma_nil)))) (ma_cons (me_tup (ma_cons (me_int) (ma_cons (me_int) (ma_nil)))) (ma_nil))))) (ma_cons (me_tup (ma_cons (me_tup (ma_cons (me_int) (ma_cons (me_int) (ma_nil)))) (ma_cons (me_tup (ma_cons (me_non) (ma_cons (me_int) (ma_nil)))) (ma_cons (me_tup (ma_cons (me_int) (ma_cons (me_int) (ma_nil)))) (ma_nil))))) (ma_nil)))) (ma_nil))))) (mss_cons (ms_set 3 sc_law.nd (me_tup (ma_cons (me_tup (ma_cons (me_tup (ma_cons (me_int) (ma_cons (me_non) (ma_nil)))) (ma_cons (me_tup (ma_cons (me_int) (ma_cons (me_int) (ma_nil)))) (ma_nil)))) (ma_cons (me_tup (ma_cons (me_tup (ma_cons (me_int) (ma_cons (me_int) (ma_nil)))) (ma_cons (me_tup (ma_cons (me_int) (ma_cons (me_non) (ma_nil)))) (ma_nil)))) (ma_nil))))) (mss_cons (ms_if (mt_w (mw_or (mt_not (mt_tru (me_callT D__law_is_told hT hr (takes_of (E := E) rfl rfl rfl rfl) (ma_cons (me_use 2) (ma_cons (me_non) (ma_nil)))))) (mw_or1 (mt_not (mt_tru (me_callT D__law_is_told hT hr (takes_of (E := E) rfl rfl rfl rfl) (ma_cons (me_tup (ma_cons (me_tup (ma_cons (me_int) (ma_cons (me_int) (ma_cons (me_tup (ma_cons (me_int) (ma_cons (me_int) (ma_nil)))) (ma_nil))))) (ma_cons (me_use 3) (ma_nil)))) (ma_cons (me_tup (ma_cons (me_str) (ma_cons (me_int) (ma_nil)))) (ma_nil))))))))) (mss_one (ms_ret (me_bl))) (mss_nil)) (mss_cons (ms_for (passes_of rfl) (mi_range1 T.b_range (ma_cons (me_int) (ma_nil))) (mg_name 4 sc_law.nd) (mss_cons (ms_asg (me_call D__law_pair hr (takes_of (E := E) rfl rfl rfl rfl) (ma_cons (me_use 1) (ma_nil))) (mg_tup (mgs_cons (mg_name 5 sc_law.nd) (mgs_cons (mg_name 6 sc_law.nd) (mgs_nil))))) (mss_cons (ms_if (mt_not (mt_tru (me_callT D__law_is_told hT hr (takes_of (E := E) rfl rfl rfl rfl) (ma_cons (me_tup (ma_cons (me_use 5) (ma_cons (me_use 6) (ma_nil)))) (ma_cons (me_call D__law_due hr (takes_of (E := E) rfl rfl rfl rfl) (ma_cons (me_use 5) (ma_cons (me_use 6) (ma_nil)))) (ma_nil)))))) (mss_one (ms_ret (me_bl))) (mss_nil)) (mss_cons (ms_asg (me_call D__law_wrong hr (takes_of (E := E) rfl rfl rfl rfl) (ma_cons (me_use 1) (ma_cons (me_use 5) (ma_cons (me_use 6) (ma_nil))))) (mg_tup (mgs_cons (mg_name 7 sc_law.nd) (mgs_cons (mg_name 8 sc_law.nd) (mgs_nil))))) (mss_one (ms_if (mt_not (mt_tru (me_callT D__law_is_told hT hr (takes_of (E := E) rfl rfl rfl rfl) (ma_cons (me_use 7) (ma_cons (me_use 8) (ma_nil)))))) (mss_one (ms_ret (me_bl))) (mss_nil))))))) (mss_one (ms_ret (me_callT D__law_many_right hT hr (takes_of (E := E) rfl rfl rfl rfl) (ma_cons (me_use 1) (ma_cons (me_use 2) (ma_cons (me_tup (ma_cons (me_op op_pAdd (me_op op_pAdd (me_cut (me_ix (me_use 2) (me_int)) (mo_none) (mo_some (me_int))) (me_tup (ma_cons (me_int) (ma_nil)))) (me_cut (me_ix (me_use 2) (me_int)) (mo_some (me_int)) (mo_none))) (ma_cons (me_ix (me_use 2) (me_int)) (ma_nil)))) (ma_nil)))))))))))
end
end FS
set_option Elab.async false
set_option linter.all false
set_option maxRecDepth 100000
set_option maxHeartbeats 2000000
/-! FsEnd: the end of a law where defs of the program make generator expressions. -/
namespace LamX
open PySem PySem.Spec PyProof.Rows L2
theorem walk_ofAll {l : PySem.W.OpenLaw} {n k : Nat} {q : Program} {loose : List Str} {XP : (Str → Option Value) → Heap → Prop} {YP : World → Heap → Prop} {d : DefRec} {K : Params → PySem.W.Frag} {CX : World → CXT} {x : Str}
    (hn : l.most = some n) (hn2 : n ≤ sizeLine) (hdf : d.params.defaults = []) (hr : Room k callerA) (hY : ∀ (w : World) (h : Heap), YP w h → (K w.params).In h)
    (F : ∀ (w : World) (mg : Str → Option Value) (fa : Addr) (h : Heap), YP w h → (K w.params).In h → h.Ns mainGlobals mg → mg d.name = some (.ref fa) →
      (∀ (nm : Str) (f : Addr), ((recsOf q).any fun e => e.name == nm) = true → mg nm = some (.ref f) → OwnTab (K w.params) f h) → LawAtS l w (K w.params) (CX w) k n x mg fa h)
    (hCX : ∀ (w : World) (H : Hp) (s : Shared) (e : Value) (s' : Shared), CX w [] H s (fun _ _ _ => False) e s' → False) :
    PySem.W.WalkO q loose XP YP l.row.toRowW d [] (fun f vs => PySem.call f vs) := by
  refine Att.attach_callB hn hdf fun w s₀ s₁ mg mb fa o pm cd doc a vs ns G Y ho hd hcd hmg hobj hints hlen hbits hg => ?_
  have KX := hY w _ Y
  have own : ∀ (nm : Str) (f : Addr), ((recsOf q).any fun e => e.name == nm) = true → mg nm = some (.ref f) → OwnTab (K w.params) f s₁.heap := fun nm f hrec hf c P o1 fd1 e dd vs1 sl k1 k2 k3 k4 k5 => by
    obtain ⟨dL, hm, hn1⟩ := List.any_eq_true.mp hrec
    have hn2 : dL.name = nm := beq_iff_eq.mp hn1
    obtain ⟨a', o', fd', c', P', h1, h2, h3, h4, h5, h6⟩ := G.T.tab dL hm
    rw [hn2, hf] at h1
    cases h1
    have g1 := KX _ _ k1
    rw [g1] at h2
    cases h2
    rw [k2] at h3
    cases h3
    rw [k3] at h4
    cases h4
    obtain ⟨⟨oc, vc, e1, _, e3, e4⟩, hP⟩ := h6
    have g2 := KX _ _ k4
    rw [g2] at e1
    cases e1
    cases e3
    rw [k5] at e4
    cases e4
    exact hP
  obtain ⟨fd, cs, sp, hT, nT, C, hb, hsp, hF⟩ := F w mg fa _ Y KX G.T.g hmg own
  exact law_callTs KX G.T.g G.T.b G.T.builtins G.T.nolimit hg hT nT C G.T.bmain hobj hints (Nat.le_trans hlen hn2) hr hF hb (fun H hH hS => hsp H a ns hlen hbits hH hS) fun H e s' => hCX w H s₁ e s'
end LamX
set_option Elab.async false
set_option linter.all false
set_option maxRecDepth 100000
set_option maxHeartbeats 8000000
/-! K60End: the end of law_k60_charters (printed by our gen.py) -/
namespace FSEnd
open PySem PySem.Spec PyProof.Rows L2 FS
theorem all_mk {l : PySem.W.OpenLaw} {w : World} {K : PySem.W.Frag} {h : Heap} {mg : Str → Option Value} {fa : Addr} (X : K.In h) (G : h.Ns mainGlobals mg) (hfa : mg "law" = some (.ref fa))
    {qq : Program} (OT : ∀ (nm : Str) (f : Addr), ((PyProof.Rows.recsOf qq).any fun e => e.name == nm) = true → mg nm = some (.ref f) → LamX.OwnTab K f h)
    {fI : Addr} {odI anI : Option Addr} {slI : Array (Option Value)} {ocI kVI dcI pmI cdI ctI : Value}
    {C_BadBook : Addr} {nm_BadBook q_BadBook : Str} {N_BadBook : Addr} {bs_BadBook bm_BadBook : List Value} {sn_BadBook : List Str} {sub_BadBook : List Value} {ab_BadBook : Bool} {col_BadBook : Option Bool} {dd_BadBook : Option Addr} {m0_BadBook m1_BadBook m2_BadBook m3_BadBook m5_BadBook : Option Value}
    {C_BadCharter : Addr} {nm_BadCharter q_BadCharter : Str} {N_BadCharter : Addr} {bs_BadCharter bm_BadCharter : List Value} {sn_BadCharter : List Str} {sub_BadCharter : List Value} {ab_BadCharter : Bool} {col_BadCharter : Option Bool} {dd_BadCharter : Option Addr} {m0_BadCharter m1_BadCharter m2_BadCharter m3_BadCharter m5_BadCharter : Option Value}
    {C_BadCharters : Addr} {nm_BadCharters q_BadCharters : Str} {N_BadCharters : Addr} {bs_BadCharters bm_BadCharters : List Value} {sn_BadCharters : List Str} {sub_BadCharters : List Value} {ab_BadCharters : Bool} {col_BadCharters : Option Bool} {dd_BadCharters : Option Addr} {m0_BadCharters m1_BadCharters m2_BadCharters m3_BadCharters m5_BadCharters : Option Value}
    {C_BadGround : Addr} {nm_BadGround q_BadGround : Str} {N_BadGround : Addr} {bs_BadGround bm_BadGround : List Value} {sn_BadGround : List Str} {sub_BadGround : List Value} {ab_BadGround : Bool} {col_BadGround : Option Bool} {dd_BadGround : Option Addr} {m0_BadGround m1_BadGround m2_BadGround m3_BadGround m5_BadGround : Option Value}
    {C_BadMany : Addr} {nm_BadMany q_BadMany : Str} {N_BadMany : Addr} {bs_BadMany bm_BadMany : List Value} {sn_BadMany : List Str} {sub_BadMany : List Value} {ab_BadMany : Bool} {col_BadMany : Option Bool} {dd_BadMany : Option Addr} {m0_BadMany m1_BadMany m2_BadMany m3_BadMany m5_BadMany : Option Value}
    {C_BadTold : Addr} {nm_BadTold q_BadTold : Str} {N_BadTold : Addr} {bs_BadTold bm_BadTold : List Value} {sn_BadTold : List Str} {sub_BadTold : List Value} {ab_BadTold : Bool} {col_BadTold : Option Bool} {dd_BadTold : Option Addr} {m0_BadTold m1_BadTold m2_BadTold m3_BadTold m5_BadTold : Option Value}
    {C_Hopeless : Addr} {nm_Hopeless q_Hopeless : Str} {N_Hopeless : Addr} {bs_Hopeless bm_Hopeless : List Value} {sn_Hopeless : List Str} {sub_Hopeless : List Value} {ab_Hopeless : Bool} {col_Hopeless : Option Bool} {dd_Hopeless : Option Addr} {m0_Hopeless m1_Hopeless m2_Hopeless m3_Hopeless m5_Hopeless : Option Value}
    {C_Refused : Addr} {nm_Refused q_Refused : Str} {N_Refused : Addr} {bs_Refused bm_Refused : List Value} {sn_Refused : List Str} {sub_Refused : List Value} {ab_Refused : Bool} {col_Refused : Option Bool} {dd_Refused : Option Addr} {m0_Refused m1_Refused m2_Refused m3_Refused m5_Refused : Option Value}
    {C_TooMany : Addr} {nm_TooMany q_TooMany : Str} {N_TooMany : Addr} {bs_TooMany bm_TooMany : List Value} {sn_TooMany : List Str} {sub_TooMany : List Value} {ab_TooMany : Bool} {col_TooMany : Option Bool} {dd_TooMany : Option Addr} {m0_TooMany m1_TooMany m2_TooMany m3_TooMany m5_TooMany : Option Value}
    {f__law_pool : Addr} {od__law_pool an__law_pool : Option Addr} {sl__law_pool : Array (Option Value)} {oc__law_pool kV__law_pool dc__law_pool pm__law_pool ct__law_pool : Value} {cd__law_pool : Value}
    {f__law_draw : Addr} {od__law_draw an__law_draw : Option Addr} {sl__law_draw : Array (Option Value)} {oc__law_draw kV__law_draw dc__law_draw pm__law_draw ct__law_draw : Value} {cd__law_draw : Value}
    {f__law_pick : Addr} {od__law_pick an__law_pick : Option Addr} {sl__law_pick : Array (Option Value)} {oc__law_pick kV__law_pick dc__law_pick pm__law_pick ct__law_pick : Value} {cd__law_pick : Value}
    {f__law_heard : Addr} {od__law_heard an__law_heard : Option Addr} {sl__law_heard : Array (Option Value)} {oc__law_heard kV__law_heard dc__law_heard pm__law_heard ct__law_heard : Value} {cd__law_heard : Value}
    {f_is_volume : Addr} {od_is_volume an_is_volume : Option Addr} {sl_is_volume : Array (Option Value)} {oc_is_volume kV_is_volume dc_is_volume pm_is_volume ct_is_volume : Value} {cd_is_volume : Value}
    {f_is_whole : Addr} {od_is_whole an_is_whole : Option Addr} {sl_is_whole : Array (Option Value)} {oc_is_whole kV_is_whole dc_is_whole pm_is_whole ct_is_whole : Value} {cd_is_whole : Value}
    {f_is_prime : Addr} {od_is_prime an_is_prime : Option Addr} {sl_is_prime : Array (Option Value)} {oc_is_prime kV_is_prime dc_is_prime pm_is_prime ct_is_prime : Value} {cd_is_prime : Value}
    {f_are_points : Addr} {od_are_points an_are_points : Option Addr} {sl_are_points : Array (Option Value)} {oc_are_points kV_are_points dc_are_points pm_are_points ct_are_points : Value} {cd_are_points : Value}
    {f_made_ground : Addr} {od_made_ground an_made_ground : Option Addr} {sl_made_ground : Array (Option Value)} {oc_made_ground kV_made_ground dc_made_ground pm_made_ground ct_made_ground : Value} {cd_made_ground : Value}
    {f_is_below : Addr} {od_is_below an_is_below : Option Addr} {sl_is_below : Array (Option Value)} {oc_is_below kV_is_below dc_is_below pm_is_below ct_is_below : Value} {cd_is_below : Value}
    {f_is_bound : Addr} {od_is_bound an_is_bound : Option Addr} {sl_is_bound : Array (Option Value)} {oc_is_bound kV_is_bound dc_is_bound pm_is_bound ct_is_bound : Value} {cd_is_bound : Value}
    {f_is_fate : Addr} {od_is_fate an_is_fate : Option Addr} {sl_is_fate : Array (Option Value)} {oc_is_fate kV_is_fate dc_is_fate pm_is_fate ct_is_fate : Value} {cd_is_fate : Value}
    {f_is_row : Addr} {od_is_row an_is_row : Option Addr} {sl_is_row : Array (Option Value)} {oc_is_row kV_is_row dc_is_row pm_is_row ct_is_row : Value} {cd_is_row : Value}
    {f_made_book : Addr} {od_made_book an_made_book : Option Addr} {sl_made_book : Array (Option Value)} {oc_made_book kV_made_book dc_made_book pm_made_book ct_made_book : Value} {cd_made_book : Value}
    {f_shelves : Addr} {od_shelves an_shelves : Option Addr} {sl_shelves : Array (Option Value)} {oc_shelves kV_shelves dc_shelves pm_shelves ct_shelves : Value} {cd_shelves : Value}
    {f_check_told : Addr} {od_check_told an_check_told : Option Addr} {sl_check_told : Array (Option Value)} {oc_check_told kV_check_told dc_check_told pm_check_told ct_check_told : Value} {cd_check_told : Value}
    {f_lesser : Addr} {od_lesser an_lesser : Option Addr} {sl_lesser : Array (Option Value)} {oc_lesser kV_lesser dc_lesser pm_lesser ct_lesser : Value} {cd_lesser : Value}
    {f_missing : Addr} {od_missing an_missing : Option Addr} {sl_missing : Array (Option Value)} {oc_missing kV_missing dc_missing pm_missing ct_missing : Value} {cd_missing : Value}
    {f_greater : Addr} {od_greater an_greater : Option Addr} {sl_greater : Array (Option Value)} {oc_greater kV_greater dc_greater pm_greater ct_greater : Value} {cd_greater : Value}
    {f_is_bearable_pair : Addr} {od_is_bearable_pair an_is_bearable_pair : Option Addr} {sl_is_bearable_pair : Array (Option Value)} {oc_is_bearable_pair kV_is_bearable_pair dc_is_bearable_pair pm_is_bearable_pair ct_is_bearable_pair : Value} {cd_is_bearable_pair : Value}
    {f_bearable : Addr} {od_bearable an_bearable : Option Addr} {sl_bearable : Array (Option Value)} {oc_bearable kV_bearable dc_bearable pm_bearable ct_bearable : Value} {cd_bearable : Addr}
    {Pt_bearable : Addr} {co_bearable : Option Addr} {cv_bearable : Array Value} {cs_bearable : Array (Option Value)} {fi_bearable : Str} {tf_bearable tg_bearable tt_bearable : Tok} {fl_bearable tn_bearable : Int} {in_bearable : Bool}
    {f_made_charter : Addr} {od_made_charter an_made_charter : Option Addr} {sl_made_charter : Array (Option Value)} {oc_made_charter kV_made_charter dc_made_charter pm_made_charter ct_made_charter : Value} {cd_made_charter : Addr}
    {f_is_charter : Addr} {od_is_charter an_is_charter : Option Addr} {sl_is_charter : Array (Option Value)} {oc_is_charter kV_is_charter dc_is_charter pm_is_charter ct_is_charter : Value} {cd_is_charter : Addr}
    {f_is_entry : Addr} {od_is_entry an_is_entry : Option Addr} {sl_is_entry : Array (Option Value)} {oc_is_entry kV_is_entry dc_is_entry pm_is_entry ct_is_entry : Value} {cd_is_entry : Addr}
    {f_made_charters : Addr} {od_made_charters an_made_charters : Option Addr} {sl_made_charters : Array (Option Value)} {oc_made_charters kV_made_charters dc_made_charters pm_made_charters ct_made_charters : Value} {cd_made_charters : Addr}
    {f__law_many_right : Addr} {od__law_many_right an__law_many_right : Option Addr} {sl__law_many_right : Array (Option Value)} {oc__law_many_right kV__law_many_right dc__law_many_right pm__law_many_right ct__law_many_right : Value} {cd__law_many_right : Addr}
    {Pt__law_many_right : Addr} {co__law_many_right : Option Addr} {cv__law_many_right : Array Value} {cs__law_many_right : Array (Option Value)} {fi__law_many_right : Str} {tf__law_many_right tg__law_many_right tt__law_many_right : Tok} {fl__law_many_right tn__law_many_right : Int} {in__law_many_right : Bool}
    {f__law_bound : Addr} {od__law_bound an__law_bound : Option Addr} {sl__law_bound : Array (Option Value)} {oc__law_bound kV__law_bound dc__law_bound pm__law_bound ct__law_bound : Value} {cd__law_bound : Value}
    {f__law_row : Addr} {od__law_row an__law_row : Option Addr} {sl__law_row : Array (Option Value)} {oc__law_row kV__law_row dc__law_row pm__law_row ct__law_row : Value} {cd__law_row : Value}
    {f__law_book : Addr} {od__law_book an__law_book : Option Addr} {sl__law_book : Array (Option Value)} {oc__law_book kV__law_book dc__law_book pm__law_book ct__law_book : Value} {cd__law_book : Value}
    {f__law_turned : Addr} {od__law_turned an__law_turned : Option Addr} {sl__law_turned : Array (Option Value)} {oc__law_turned kV__law_turned dc__law_turned pm__law_turned ct__law_turned : Value} {cd__law_turned : Value}
    {f__law_pair : Addr} {od__law_pair an__law_pair : Option Addr} {sl__law_pair : Array (Option Value)} {oc__law_pair kV__law_pair dc__law_pair pm__law_pair ct__law_pair : Value} {cd__law_pair : Value}
    {f__law_wrong : Addr} {od__law_wrong an__law_wrong : Option Addr} {sl__law_wrong : Array (Option Value)} {oc__law_wrong kV__law_wrong dc__law_wrong pm__law_wrong ct__law_wrong : Value} {cd__law_wrong : Value}
    {f__law_is_told : Addr} {od__law_is_told an__law_is_told : Option Addr} {sl__law_is_told : Array (Option Value)} {oc__law_is_told kV__law_is_told dc__law_is_told pm__law_is_told ct__law_is_told : Value} {cd__law_is_told : Addr}
    {Pt__law_is_told : Addr} {co__law_is_told : Option Addr} {cv__law_is_told : Array Value} {cs__law_is_told : Array (Option Value)} {fi__law_is_told : Str} {tf__law_is_told tg__law_is_told tt__law_is_told : Tok} {fl__law_is_told tn__law_is_told : Int} {in__law_is_told : Bool}
    {f__law_bearable : Addr} {od__law_bearable an__law_bearable : Option Addr} {sl__law_bearable : Array (Option Value)} {oc__law_bearable kV__law_bearable dc__law_bearable pm__law_bearable ct__law_bearable : Value} {cd__law_bearable : Value}
    {f__law_due : Addr} {od__law_due an__law_due : Option Addr} {sl__law_due : Array (Option Value)} {oc__law_due kV__law_due dc__law_due pm__law_due ct__law_due : Value} {cd__law_due : Value}
    {f_law : Addr} {od_law an_law : Option Addr} {sl_law : Array (Option Value)} {oc_law kV_law dc_law pm_law ct_law : Value} {cd_law : Addr}
    {tk_LEAST_NUMBERS : Tok}
    {tk_LEAST_PRIME : Tok}
    {tk_MOST_FATE : Tok}
    {tk_MOST_NUMBERS : Tok}
    {tk_MOST_PRIME : Tok}
    {tk_MOST_ROWS : Tok}
    {tk_MOST_SHELVES_books : Tok}
    {tk_MOST_SHELVES_grounds : Tok}
    (aC_BadBook : PySem.W.nsIn K mainGlobals "BadBook" = some (some (.ref C_BadBook)))
    (lC_BadBook : K.lookup C_BadBook = some (excClassObj nm_BadBook q_BadBook C_BadBook N_BadBook bs_BadBook bm_BadBook true sn_BadBook sub_BadBook ab_BadBook col_BadBook dd_BadBook m0_BadBook m1_BadBook m2_BadBook m3_BadBook m5_BadBook "ValueError.__new__"))
    (rC_BadBook : PySem.HandSPX.refsVE bm_BadBook = true)
    (sa_BadBook : PySem.W.findIn K (.ref C_BadBook) "__setattr__" = some (some (.builtin "object.__setattr__")))
    (ga_BadBook : PySem.W.findIn K (.ref C_BadBook) "__getattribute__" = some (some (.builtin "BaseException.__getattribute__")))
    (gg_BadBook : PySem.W.findIn K (.ref C_BadBook) "__getattr__" = some none)
    (nw_BadBook : PySem.W.findIn K (.ref C_BadBook) "what" = some none)
    (kC_BadBook : PySem.W.keepIn K (.ref C_BadBook) = true)
    (eC_BadBook : PySem.W.subIn K (.ref C_BadBook) (.type "BaseException") = some true)
    (tC_BadBook : PySem.W.typeIn K (.ref C_BadBook) = some (.type "type"))
    (hC_BadBook : PySem.W.hasDictIn K C_BadBook = true)
    (iC_BadBook : PySem.W.findIn K (.ref C_BadBook) "__init__" = some (some (.ref fI)))
    (ha_BadBook : PySem.W.findIn K (.ref C_BadBook) "__class__" = some (some (.builtin "object.__class__")))
    (hm_BadBook : PySem.W.mroIn K C_BadBook (.type "object") = some true)
    (aC_BadCharter : PySem.W.nsIn K mainGlobals "BadCharter" = some (some (.ref C_BadCharter)))
    (lC_BadCharter : K.lookup C_BadCharter = some (excClassObj nm_BadCharter q_BadCharter C_BadCharter N_BadCharter bs_BadCharter bm_BadCharter true sn_BadCharter sub_BadCharter ab_BadCharter col_BadCharter dd_BadCharter m0_BadCharter m1_BadCharter m2_BadCharter m3_BadCharter m5_BadCharter "ValueError.__new__"))
    (rC_BadCharter : PySem.HandSPX.refsVE bm_BadCharter = true)
    (sa_BadCharter : PySem.W.findIn K (.ref C_BadCharter) "__setattr__" = some (some (.builtin "object.__setattr__")))
    (ga_BadCharter : PySem.W.findIn K (.ref C_BadCharter) "__getattribute__" = some (some (.builtin "BaseException.__getattribute__")))
    (gg_BadCharter : PySem.W.findIn K (.ref C_BadCharter) "__getattr__" = some none)
    (nw_BadCharter : PySem.W.findIn K (.ref C_BadCharter) "what" = some none)
    (kC_BadCharter : PySem.W.keepIn K (.ref C_BadCharter) = true)
    (eC_BadCharter : PySem.W.subIn K (.ref C_BadCharter) (.type "BaseException") = some true)
    (tC_BadCharter : PySem.W.typeIn K (.ref C_BadCharter) = some (.type "type"))
    (hC_BadCharter : PySem.W.hasDictIn K C_BadCharter = true)
    (iC_BadCharter : PySem.W.findIn K (.ref C_BadCharter) "__init__" = some (some (.ref fI)))
    (ha_BadCharter : PySem.W.findIn K (.ref C_BadCharter) "__class__" = some (some (.builtin "object.__class__")))
    (hm_BadCharter : PySem.W.mroIn K C_BadCharter (.type "object") = some true)
    (aC_BadCharters : PySem.W.nsIn K mainGlobals "BadCharters" = some (some (.ref C_BadCharters)))
    (lC_BadCharters : K.lookup C_BadCharters = some (excClassObj nm_BadCharters q_BadCharters C_BadCharters N_BadCharters bs_BadCharters bm_BadCharters true sn_BadCharters sub_BadCharters ab_BadCharters col_BadCharters dd_BadCharters m0_BadCharters m1_BadCharters m2_BadCharters m3_BadCharters m5_BadCharters "ValueError.__new__"))
    (rC_BadCharters : PySem.HandSPX.refsVE bm_BadCharters = true)
    (sa_BadCharters : PySem.W.findIn K (.ref C_BadCharters) "__setattr__" = some (some (.builtin "object.__setattr__")))
    (ga_BadCharters : PySem.W.findIn K (.ref C_BadCharters) "__getattribute__" = some (some (.builtin "BaseException.__getattribute__")))
    (gg_BadCharters : PySem.W.findIn K (.ref C_BadCharters) "__getattr__" = some none)
    (nw_BadCharters : PySem.W.findIn K (.ref C_BadCharters) "what" = some none)
    (kC_BadCharters : PySem.W.keepIn K (.ref C_BadCharters) = true)
    (eC_BadCharters : PySem.W.subIn K (.ref C_BadCharters) (.type "BaseException") = some true)
    (tC_BadCharters : PySem.W.typeIn K (.ref C_BadCharters) = some (.type "type"))
    (hC_BadCharters : PySem.W.hasDictIn K C_BadCharters = true)
    (iC_BadCharters : PySem.W.findIn K (.ref C_BadCharters) "__init__" = some (some (.ref fI)))
    (ha_BadCharters : PySem.W.findIn K (.ref C_BadCharters) "__class__" = some (some (.builtin "object.__class__")))
    (hm_BadCharters : PySem.W.mroIn K C_BadCharters (.type "object") = some true)
    (aC_BadGround : PySem.W.nsIn K mainGlobals "BadGround" = some (some (.ref C_BadGround)))
    (lC_BadGround : K.lookup C_BadGround = some (excClassObj nm_BadGround q_BadGround C_BadGround N_BadGround bs_BadGround bm_BadGround true sn_BadGround sub_BadGround ab_BadGround col_BadGround dd_BadGround m0_BadGround m1_BadGround m2_BadGround m3_BadGround m5_BadGround "ValueError.__new__"))
    (rC_BadGround : PySem.HandSPX.refsVE bm_BadGround = true)
    (sa_BadGround : PySem.W.findIn K (.ref C_BadGround) "__setattr__" = some (some (.builtin "object.__setattr__")))
    (ga_BadGround : PySem.W.findIn K (.ref C_BadGround) "__getattribute__" = some (some (.builtin "BaseException.__getattribute__")))
    (gg_BadGround : PySem.W.findIn K (.ref C_BadGround) "__getattr__" = some none)
    (nw_BadGround : PySem.W.findIn K (.ref C_BadGround) "what" = some none)
    (kC_BadGround : PySem.W.keepIn K (.ref C_BadGround) = true)
    (eC_BadGround : PySem.W.subIn K (.ref C_BadGround) (.type "BaseException") = some true)
    (tC_BadGround : PySem.W.typeIn K (.ref C_BadGround) = some (.type "type"))
    (hC_BadGround : PySem.W.hasDictIn K C_BadGround = true)
    (iC_BadGround : PySem.W.findIn K (.ref C_BadGround) "__init__" = some (some (.ref fI)))
    (ha_BadGround : PySem.W.findIn K (.ref C_BadGround) "__class__" = some (some (.builtin "object.__class__")))
    (hm_BadGround : PySem.W.mroIn K C_BadGround (.type "object") = some true)
    (aC_BadMany : PySem.W.nsIn K mainGlobals "BadMany" = some (some (.ref C_BadMany)))
    (lC_BadMany : K.lookup C_BadMany = some (excClassObj nm_BadMany q_BadMany C_BadMany N_BadMany bs_BadMany bm_BadMany true sn_BadMany sub_BadMany ab_BadMany col_BadMany dd_BadMany m0_BadMany m1_BadMany m2_BadMany m3_BadMany m5_BadMany "ValueError.__new__"))
    (rC_BadMany : PySem.HandSPX.refsVE bm_BadMany = true)
    (sa_BadMany : PySem.W.findIn K (.ref C_BadMany) "__setattr__" = some (some (.builtin "object.__setattr__")))
    (ga_BadMany : PySem.W.findIn K (.ref C_BadMany) "__getattribute__" = some (some (.builtin "BaseException.__getattribute__")))
    (gg_BadMany : PySem.W.findIn K (.ref C_BadMany) "__getattr__" = some none)
    (nw_BadMany : PySem.W.findIn K (.ref C_BadMany) "what" = some none)
    (kC_BadMany : PySem.W.keepIn K (.ref C_BadMany) = true)
    (eC_BadMany : PySem.W.subIn K (.ref C_BadMany) (.type "BaseException") = some true)
    (tC_BadMany : PySem.W.typeIn K (.ref C_BadMany) = some (.type "type"))
    (hC_BadMany : PySem.W.hasDictIn K C_BadMany = true)
    (iC_BadMany : PySem.W.findIn K (.ref C_BadMany) "__init__" = some (some (.ref fI)))
    (ha_BadMany : PySem.W.findIn K (.ref C_BadMany) "__class__" = some (some (.builtin "object.__class__")))
    (hm_BadMany : PySem.W.mroIn K C_BadMany (.type "object") = some true)
    (aC_BadTold : PySem.W.nsIn K mainGlobals "BadTold" = some (some (.ref C_BadTold)))
    (lC_BadTold : K.lookup C_BadTold = some (excClassObj nm_BadTold q_BadTold C_BadTold N_BadTold bs_BadTold bm_BadTold true sn_BadTold sub_BadTold ab_BadTold col_BadTold dd_BadTold m0_BadTold m1_BadTold m2_BadTold m3_BadTold m5_BadTold "ValueError.__new__"))
    (rC_BadTold : PySem.HandSPX.refsVE bm_BadTold = true)
    (sa_BadTold : PySem.W.findIn K (.ref C_BadTold) "__setattr__" = some (some (.builtin "object.__setattr__")))
    (ga_BadTold : PySem.W.findIn K (.ref C_BadTold) "__getattribute__" = some (some (.builtin "BaseException.__getattribute__")))
    (gg_BadTold : PySem.W.findIn K (.ref C_BadTold) "__getattr__" = some none)
    (nw_BadTold : PySem.W.findIn K (.ref C_BadTold) "what" = some none)
    (kC_BadTold : PySem.W.keepIn K (.ref C_BadTold) = true)
    (eC_BadTold : PySem.W.subIn K (.ref C_BadTold) (.type "BaseException") = some true)
    (tC_BadTold : PySem.W.typeIn K (.ref C_BadTold) = some (.type "type"))
    (hC_BadTold : PySem.W.hasDictIn K C_BadTold = true)
    (iC_BadTold : PySem.W.findIn K (.ref C_BadTold) "__init__" = some (some (.ref fI)))
    (ha_BadTold : PySem.W.findIn K (.ref C_BadTold) "__class__" = some (some (.builtin "object.__class__")))
    (hm_BadTold : PySem.W.mroIn K C_BadTold (.type "object") = some true)
    (aC_Hopeless : PySem.W.nsIn K mainGlobals "Hopeless" = some (some (.ref C_Hopeless)))
    (lC_Hopeless : K.lookup C_Hopeless = some (excClassObj nm_Hopeless q_Hopeless C_Hopeless N_Hopeless bs_Hopeless bm_Hopeless true sn_Hopeless sub_Hopeless ab_Hopeless col_Hopeless dd_Hopeless m0_Hopeless m1_Hopeless m2_Hopeless m3_Hopeless m5_Hopeless "ValueError.__new__"))
    (rC_Hopeless : PySem.HandSPX.refsVE bm_Hopeless = true)
    (sa_Hopeless : PySem.W.findIn K (.ref C_Hopeless) "__setattr__" = some (some (.builtin "object.__setattr__")))
    (ga_Hopeless : PySem.W.findIn K (.ref C_Hopeless) "__getattribute__" = some (some (.builtin "BaseException.__getattribute__")))
    (gg_Hopeless : PySem.W.findIn K (.ref C_Hopeless) "__getattr__" = some none)
    (nw_Hopeless : PySem.W.findIn K (.ref C_Hopeless) "what" = some none)
    (kC_Hopeless : PySem.W.keepIn K (.ref C_Hopeless) = true)
    (eC_Hopeless : PySem.W.subIn K (.ref C_Hopeless) (.type "BaseException") = some true)
    (tC_Hopeless : PySem.W.typeIn K (.ref C_Hopeless) = some (.type "type"))
    (hC_Hopeless : PySem.W.hasDictIn K C_Hopeless = true)
    (iC_Hopeless : PySem.W.findIn K (.ref C_Hopeless) "__init__" = some (some (.ref fI)))
    (ha_Hopeless : PySem.W.findIn K (.ref C_Hopeless) "__class__" = some (some (.builtin "object.__class__")))
    (hm_Hopeless : PySem.W.mroIn K C_Hopeless (.type "object") = some true)
    (aC_Refused : PySem.W.nsIn K mainGlobals "Refused" = some (some (.ref C_Refused)))
    (lC_Refused : K.lookup C_Refused = some (excClassObj nm_Refused q_Refused C_Refused N_Refused bs_Refused bm_Refused true sn_Refused sub_Refused ab_Refused col_Refused dd_Refused m0_Refused m1_Refused m2_Refused m3_Refused m5_Refused "ValueError.__new__"))
    (rC_Refused : PySem.HandSPX.refsVE bm_Refused = true)
    (sa_Refused : PySem.W.findIn K (.ref C_Refused) "__setattr__" = some (some (.builtin "object.__setattr__")))
    (ga_Refused : PySem.W.findIn K (.ref C_Refused) "__getattribute__" = some (some (.builtin "BaseException.__getattribute__")))
    (gg_Refused : PySem.W.findIn K (.ref C_Refused) "__getattr__" = some none)
    (nw_Refused : PySem.W.findIn K (.ref C_Refused) "what" = some none)
    (kC_Refused : PySem.W.keepIn K (.ref C_Refused) = true)
    (eC_Refused : PySem.W.subIn K (.ref C_Refused) (.type "BaseException") = some true)
    (tC_Refused : PySem.W.typeIn K (.ref C_Refused) = some (.type "type"))
    (hC_Refused : PySem.W.hasDictIn K C_Refused = true)
    (aC_TooMany : PySem.W.nsIn K mainGlobals "TooMany" = some (some (.ref C_TooMany)))
    (lC_TooMany : K.lookup C_TooMany = some (excClassObj nm_TooMany q_TooMany C_TooMany N_TooMany bs_TooMany bm_TooMany true sn_TooMany sub_TooMany ab_TooMany col_TooMany dd_TooMany m0_TooMany m1_TooMany m2_TooMany m3_TooMany m5_TooMany "ValueError.__new__"))
    (rC_TooMany : PySem.HandSPX.refsVE bm_TooMany = true)
    (sa_TooMany : PySem.W.findIn K (.ref C_TooMany) "__setattr__" = some (some (.builtin "object.__setattr__")))
    (ga_TooMany : PySem.W.findIn K (.ref C_TooMany) "__getattribute__" = some (some (.builtin "BaseException.__getattribute__")))
    (gg_TooMany : PySem.W.findIn K (.ref C_TooMany) "__getattr__" = some none)
    (nw_TooMany : PySem.W.findIn K (.ref C_TooMany) "what" = some none)
    (kC_TooMany : PySem.W.keepIn K (.ref C_TooMany) = true)
    (eC_TooMany : PySem.W.subIn K (.ref C_TooMany) (.type "BaseException") = some true)
    (tC_TooMany : PySem.W.typeIn K (.ref C_TooMany) = some (.type "type"))
    (hC_TooMany : PySem.W.hasDictIn K C_TooMany = true)
    (iC_TooMany : PySem.W.findIn K (.ref C_TooMany) "__init__" = some (some (.ref fI)))
    (ha_TooMany : PySem.W.findIn K (.ref C_TooMany) "__class__" = some (some (.builtin "object.__class__")))
    (hm_TooMany : PySem.W.mroIn K C_TooMany (.type "object") = some true)
    (hn : PySem.W.specialIn K (.builtin "object.__class__") "__get__" = some (some (.builtin "getset_descriptor.__get__")))
    (ht : PySem.W.takesIn K (.builtin "object.__class__") = some true)
    (tI : PySem.W.typeIn K (.ref fI) = some (.type "function"))
    (lI : K.lookup fI = some ⟨ocI, odI, .func (PySem.W.fnOf "__init__" "Refused.__init__" (defArgs (inClass (topS 1) 0)) (defBody (inClass (topS 1) 0)) (defScope (inClass (topS 1) 0)) .none kVI dcI pmI anI cdI ctI), slI⟩)
    (cI : PySem.W.codeIn K cdI "Refused.__init__" = true)
    (kI : PySem.W.keepIn K (.ref fI) = true)
    (x_BadBook_BadBook : PySem.W.subIn K (.ref C_BadBook) (.ref C_BadBook) = some true)
    (x_BadBook_BadCharter : PySem.W.subIn K (.ref C_BadCharter) (.ref C_BadBook) = some false)
    (x_BadBook_BadCharters : PySem.W.subIn K (.ref C_BadCharters) (.ref C_BadBook) = some false)
    (x_BadBook_BadGround : PySem.W.subIn K (.ref C_BadGround) (.ref C_BadBook) = some false)
    (x_BadBook_BadMany : PySem.W.subIn K (.ref C_BadMany) (.ref C_BadBook) = some false)
    (x_BadBook_BadTold : PySem.W.subIn K (.ref C_BadTold) (.ref C_BadBook) = some false)
    (x_BadBook_Hopeless : PySem.W.subIn K (.ref C_Hopeless) (.ref C_BadBook) = some false)
    (x_BadBook_TooMany : PySem.W.subIn K (.ref C_TooMany) (.ref C_BadBook) = some false)
    (x_BadCharter_BadBook : PySem.W.subIn K (.ref C_BadBook) (.ref C_BadCharter) = some false)
    (x_BadCharter_BadCharter : PySem.W.subIn K (.ref C_BadCharter) (.ref C_BadCharter) = some true)
    (x_BadCharter_BadCharters : PySem.W.subIn K (.ref C_BadCharters) (.ref C_BadCharter) = some false)
    (x_BadCharter_BadGround : PySem.W.subIn K (.ref C_BadGround) (.ref C_BadCharter) = some false)
    (x_BadCharter_BadMany : PySem.W.subIn K (.ref C_BadMany) (.ref C_BadCharter) = some false)
    (x_BadCharter_BadTold : PySem.W.subIn K (.ref C_BadTold) (.ref C_BadCharter) = some false)
    (x_BadCharter_Hopeless : PySem.W.subIn K (.ref C_Hopeless) (.ref C_BadCharter) = some false)
    (x_BadCharter_TooMany : PySem.W.subIn K (.ref C_TooMany) (.ref C_BadCharter) = some false)
    (x_BadCharters_BadBook : PySem.W.subIn K (.ref C_BadBook) (.ref C_BadCharters) = some false)
    (x_BadCharters_BadCharter : PySem.W.subIn K (.ref C_BadCharter) (.ref C_BadCharters) = some false)
    (x_BadCharters_BadCharters : PySem.W.subIn K (.ref C_BadCharters) (.ref C_BadCharters) = some true)
    (x_BadCharters_BadGround : PySem.W.subIn K (.ref C_BadGround) (.ref C_BadCharters) = some false)
    (x_BadCharters_BadMany : PySem.W.subIn K (.ref C_BadMany) (.ref C_BadCharters) = some false)
    (x_BadCharters_BadTold : PySem.W.subIn K (.ref C_BadTold) (.ref C_BadCharters) = some false)
    (x_BadCharters_Hopeless : PySem.W.subIn K (.ref C_Hopeless) (.ref C_BadCharters) = some false)
    (x_BadCharters_TooMany : PySem.W.subIn K (.ref C_TooMany) (.ref C_BadCharters) = some false)
    (x_BadGround_BadBook : PySem.W.subIn K (.ref C_BadBook) (.ref C_BadGround) = some false)
    (x_BadGround_BadCharter : PySem.W.subIn K (.ref C_BadCharter) (.ref C_BadGround) = some false)
    (x_BadGround_BadCharters : PySem.W.subIn K (.ref C_BadCharters) (.ref C_BadGround) = some false)
    (x_BadGround_BadGround : PySem.W.subIn K (.ref C_BadGround) (.ref C_BadGround) = some true)
    (x_BadGround_BadMany : PySem.W.subIn K (.ref C_BadMany) (.ref C_BadGround) = some false)
    (x_BadGround_BadTold : PySem.W.subIn K (.ref C_BadTold) (.ref C_BadGround) = some false)
    (x_BadGround_Hopeless : PySem.W.subIn K (.ref C_Hopeless) (.ref C_BadGround) = some false)
    (x_BadGround_TooMany : PySem.W.subIn K (.ref C_TooMany) (.ref C_BadGround) = some false)
    (x_Hopeless_BadBook : PySem.W.subIn K (.ref C_BadBook) (.ref C_Hopeless) = some false)
    (x_Hopeless_BadCharter : PySem.W.subIn K (.ref C_BadCharter) (.ref C_Hopeless) = some false)
    (x_Hopeless_BadCharters : PySem.W.subIn K (.ref C_BadCharters) (.ref C_Hopeless) = some false)
    (x_Hopeless_BadGround : PySem.W.subIn K (.ref C_BadGround) (.ref C_Hopeless) = some false)
    (x_Hopeless_BadMany : PySem.W.subIn K (.ref C_BadMany) (.ref C_Hopeless) = some false)
    (x_Hopeless_BadTold : PySem.W.subIn K (.ref C_BadTold) (.ref C_Hopeless) = some false)
    (x_Hopeless_Hopeless : PySem.W.subIn K (.ref C_Hopeless) (.ref C_Hopeless) = some true)
    (x_Hopeless_TooMany : PySem.W.subIn K (.ref C_TooMany) (.ref C_Hopeless) = some false)
    (x_Refused_BadBook : PySem.W.subIn K (.ref C_BadBook) (.ref C_Refused) = some true)
    (x_Refused_BadCharter : PySem.W.subIn K (.ref C_BadCharter) (.ref C_Refused) = some true)
    (x_Refused_BadCharters : PySem.W.subIn K (.ref C_BadCharters) (.ref C_Refused) = some true)
    (x_Refused_BadGround : PySem.W.subIn K (.ref C_BadGround) (.ref C_Refused) = some true)
    (x_Refused_BadMany : PySem.W.subIn K (.ref C_BadMany) (.ref C_Refused) = some true)
    (x_Refused_BadTold : PySem.W.subIn K (.ref C_BadTold) (.ref C_Refused) = some true)
    (x_Refused_Hopeless : PySem.W.subIn K (.ref C_Hopeless) (.ref C_Refused) = some true)
    (x_Refused_TooMany : PySem.W.subIn K (.ref C_TooMany) (.ref C_Refused) = some true)
    (x_TooMany_BadBook : PySem.W.subIn K (.ref C_BadBook) (.ref C_TooMany) = some false)
    (x_TooMany_BadCharter : PySem.W.subIn K (.ref C_BadCharter) (.ref C_TooMany) = some false)
    (x_TooMany_BadCharters : PySem.W.subIn K (.ref C_BadCharters) (.ref C_TooMany) = some false)
    (x_TooMany_BadGround : PySem.W.subIn K (.ref C_BadGround) (.ref C_TooMany) = some false)
    (x_TooMany_BadMany : PySem.W.subIn K (.ref C_BadMany) (.ref C_TooMany) = some false)
    (x_TooMany_BadTold : PySem.W.subIn K (.ref C_BadTold) (.ref C_TooMany) = some false)
    (x_TooMany_Hopeless : PySem.W.subIn K (.ref C_Hopeless) (.ref C_TooMany) = some false)
    (x_TooMany_TooMany : PySem.W.subIn K (.ref C_TooMany) (.ref C_TooMany) = some true)
    (y_Hopeless_BadBook : PySem.W.kitOne K (.ref C_BadBook) (.ref C_Hopeless) = some false)
    (y_Hopeless_BadCharter : PySem.W.kitOne K (.ref C_BadCharter) (.ref C_Hopeless) = some false)
    (y_Hopeless_BadCharters : PySem.W.kitOne K (.ref C_BadCharters) (.ref C_Hopeless) = some false)
    (y_Hopeless_BadGround : PySem.W.kitOne K (.ref C_BadGround) (.ref C_Hopeless) = some false)
    (y_Hopeless_BadMany : PySem.W.kitOne K (.ref C_BadMany) (.ref C_Hopeless) = some false)
    (y_Hopeless_BadTold : PySem.W.kitOne K (.ref C_BadTold) (.ref C_Hopeless) = some false)
    (y_Hopeless_Hopeless : PySem.W.kitOne K (.ref C_Hopeless) (.ref C_Hopeless) = some true)
    (y_Hopeless_TooMany : PySem.W.kitOne K (.ref C_TooMany) (.ref C_Hopeless) = some false)
    (y_Refused_BadBook : PySem.W.kitOne K (.ref C_BadBook) (.ref C_Refused) = some true)
    (y_Refused_BadCharter : PySem.W.kitOne K (.ref C_BadCharter) (.ref C_Refused) = some true)
    (y_Refused_BadCharters : PySem.W.kitOne K (.ref C_BadCharters) (.ref C_Refused) = some true)
    (y_Refused_BadGround : PySem.W.kitOne K (.ref C_BadGround) (.ref C_Refused) = some true)
    (y_Refused_BadMany : PySem.W.kitOne K (.ref C_BadMany) (.ref C_Refused) = some true)
    (y_Refused_BadTold : PySem.W.kitOne K (.ref C_BadTold) (.ref C_Refused) = some true)
    (y_Refused_Hopeless : PySem.W.kitOne K (.ref C_Hopeless) (.ref C_Refused) = some true)
    (y_Refused_TooMany : PySem.W.kitOne K (.ref C_TooMany) (.ref C_Refused) = some true)
    (a__law_pool : PySem.W.nsIn K mainGlobals "_law_pool" = some (some (.ref f__law_pool)))
    (l__law_pool : K.lookup f__law_pool = some ⟨oc__law_pool, od__law_pool, .func (PySem.W.fnOf "_law_pool" "_law_pool" (defArgs (topS 49)) (defBody (topS 49)) (defScope (topS 49)) .none kV__law_pool dc__law_pool pm__law_pool an__law_pool cd__law_pool ct__law_pool), sl__law_pool⟩)
    (c__law_pool : PySem.W.codeIn K cd__law_pool "_law_pool" = true)
    (k__law_pool : PySem.W.keepIn K (.ref f__law_pool) = true)
    (a__law_draw : PySem.W.nsIn K mainGlobals "_law_draw" = some (some (.ref f__law_draw)))
    (l__law_draw : K.lookup f__law_draw = some ⟨oc__law_draw, od__law_draw, .func (PySem.W.fnOf "_law_draw" "_law_draw" (defArgs (topS 47)) (defBody (topS 47)) (defScope (topS 47)) .none kV__law_draw dc__law_draw pm__law_draw an__law_draw cd__law_draw ct__law_draw), sl__law_draw⟩)
    (c__law_draw : PySem.W.codeIn K cd__law_draw "_law_draw" = true)
    (k__law_draw : PySem.W.keepIn K (.ref f__law_draw) = true)
    (a__law_pick : PySem.W.nsIn K mainGlobals "_law_pick" = some (some (.ref f__law_pick)))
    (l__law_pick : K.lookup f__law_pick = some ⟨oc__law_pick, od__law_pick, .func (PySem.W.fnOf "_law_pick" "_law_pick" (defArgs (topS 48)) (defBody (topS 48)) (defScope (topS 48)) .none kV__law_pick dc__law_pick pm__law_pick an__law_pick cd__law_pick ct__law_pick), sl__law_pick⟩)
    (c__law_pick : PySem.W.codeIn K cd__law_pick "_law_pick" = true)
    (k__law_pick : PySem.W.keepIn K (.ref f__law_pick) = true)
    (a__law_heard : PySem.W.nsIn K mainGlobals "_law_heard" = some (some (.ref f__law_heard)))
    (l__law_heard : K.lookup f__law_heard = some ⟨oc__law_heard, od__law_heard, .func (PySem.W.fnOf "_law_heard" "_law_heard" (defArgs (topS 55)) (defBody (topS 55)) (defScope (topS 55)) .none kV__law_heard dc__law_heard pm__law_heard an__law_heard cd__law_heard ct__law_heard), sl__law_heard⟩)
    (c__law_heard : PySem.W.codeIn K cd__law_heard "_law_heard" = true)
    (k__law_heard : PySem.W.keepIn K (.ref f__law_heard) = true)
    (a_is_volume : PySem.W.nsIn K mainGlobals "is_volume" = some (some (.ref f_is_volume)))
    (l_is_volume : K.lookup f_is_volume = some ⟨oc_is_volume, od_is_volume, .func (PySem.W.fnOf "is_volume" "is_volume" (defArgs (topS 38)) (defBody (topS 38)) (defScope (topS 38)) .none kV_is_volume dc_is_volume pm_is_volume an_is_volume cd_is_volume ct_is_volume), sl_is_volume⟩)
    (c_is_volume : PySem.W.codeIn K cd_is_volume "is_volume" = true)
    (k_is_volume : PySem.W.keepIn K (.ref f_is_volume) = true)
    (a_is_whole : PySem.W.nsIn K mainGlobals "is_whole" = some (some (.ref f_is_whole)))
    (l_is_whole : K.lookup f_is_whole = some ⟨oc_is_whole, od_is_whole, .func (PySem.W.fnOf "is_whole" "is_whole" (defArgs (topS 12)) (defBody (topS 12)) (defScope (topS 12)) .none kV_is_whole dc_is_whole pm_is_whole an_is_whole cd_is_whole ct_is_whole), sl_is_whole⟩)
    (c_is_whole : PySem.W.codeIn K cd_is_whole "is_whole" = true)
    (k_is_whole : PySem.W.keepIn K (.ref f_is_whole) = true)
    (a_is_prime : PySem.W.nsIn K mainGlobals "is_prime" = some (some (.ref f_is_prime)))
    (l_is_prime : K.lookup f_is_prime = some ⟨oc_is_prime, od_is_prime, .func (PySem.W.fnOf "is_prime" "is_prime" (defArgs (topS 13)) (defBody (topS 13)) (defScope (topS 13)) .none kV_is_prime dc_is_prime pm_is_prime an_is_prime cd_is_prime ct_is_prime), sl_is_prime⟩)
    (c_is_prime : PySem.W.codeIn K cd_is_prime "is_prime" = true)
    (k_is_prime : PySem.W.keepIn K (.ref f_is_prime) = true)
    (a_are_points : PySem.W.nsIn K mainGlobals "are_points" = some (some (.ref f_are_points)))
    (l_are_points : K.lookup f_are_points = some ⟨oc_are_points, od_are_points, .func (PySem.W.fnOf "are_points" "are_points" (defArgs (topS 17)) (defBody (topS 17)) (defScope (topS 17)) .none kV_are_points dc_are_points pm_are_points an_are_points cd_are_points ct_are_points), sl_are_points⟩)
    (c_are_points : PySem.W.codeIn K cd_are_points "are_points" = true)
    (k_are_points : PySem.W.keepIn K (.ref f_are_points) = true)
    (a_made_ground : PySem.W.nsIn K mainGlobals "made_ground" = some (some (.ref f_made_ground)))
    (l_made_ground : K.lookup f_made_ground = some ⟨oc_made_ground, od_made_ground, .func (PySem.W.fnOf "made_ground" "made_ground" (defArgs (topS 18)) (defBody (topS 18)) (defScope (topS 18)) .none kV_made_ground dc_made_ground pm_made_ground an_made_ground cd_made_ground ct_made_ground), sl_made_ground⟩)
    (c_made_ground : PySem.W.codeIn K cd_made_ground "made_ground" = true)
    (k_made_ground : PySem.W.keepIn K (.ref f_made_ground) = true)
    (a_is_below : PySem.W.nsIn K mainGlobals "is_below" = some (some (.ref f_is_below)))
    (l_is_below : K.lookup f_is_below = some ⟨oc_is_below, od_is_below, .func (PySem.W.fnOf "is_below" "is_below" (defArgs (topS 21)) (defBody (topS 21)) (defScope (topS 21)) .none kV_is_below dc_is_below pm_is_below an_is_below cd_is_below ct_is_below), sl_is_below⟩)
    (c_is_below : PySem.W.codeIn K cd_is_below "is_below" = true)
    (k_is_below : PySem.W.keepIn K (.ref f_is_below) = true)
    (a_is_bound : PySem.W.nsIn K mainGlobals "is_bound" = some (some (.ref f_is_bound)))
    (l_is_bound : K.lookup f_is_bound = some ⟨oc_is_bound, od_is_bound, .func (PySem.W.fnOf "is_bound" "is_bound" (defArgs (topS 26)) (defBody (topS 26)) (defScope (topS 26)) .none kV_is_bound dc_is_bound pm_is_bound an_is_bound cd_is_bound ct_is_bound), sl_is_bound⟩)
    (c_is_bound : PySem.W.codeIn K cd_is_bound "is_bound" = true)
    (k_is_bound : PySem.W.keepIn K (.ref f_is_bound) = true)
    (a_is_fate : PySem.W.nsIn K mainGlobals "is_fate" = some (some (.ref f_is_fate)))
    (l_is_fate : K.lookup f_is_fate = some ⟨oc_is_fate, od_is_fate, .func (PySem.W.fnOf "is_fate" "is_fate" (defArgs (topS 27)) (defBody (topS 27)) (defScope (topS 27)) .none kV_is_fate dc_is_fate pm_is_fate an_is_fate cd_is_fate ct_is_fate), sl_is_fate⟩)
    (c_is_fate : PySem.W.codeIn K cd_is_fate "is_fate" = true)
    (k_is_fate : PySem.W.keepIn K (.ref f_is_fate) = true)
    (a_is_row : PySem.W.nsIn K mainGlobals "is_row" = some (some (.ref f_is_row)))
    (l_is_row : K.lookup f_is_row = some ⟨oc_is_row, od_is_row, .func (PySem.W.fnOf "is_row" "is_row" (defArgs (topS 28)) (defBody (topS 28)) (defScope (topS 28)) .none kV_is_row dc_is_row pm_is_row an_is_row cd_is_row ct_is_row), sl_is_row⟩)
    (c_is_row : PySem.W.codeIn K cd_is_row "is_row" = true)
    (k_is_row : PySem.W.keepIn K (.ref f_is_row) = true)
    (a_made_book : PySem.W.nsIn K mainGlobals "made_book" = some (some (.ref f_made_book)))
    (l_made_book : K.lookup f_made_book = some ⟨oc_made_book, od_made_book, .func (PySem.W.fnOf "made_book" "made_book" (defArgs (topS 29)) (defBody (topS 29)) (defScope (topS 29)) .none kV_made_book dc_made_book pm_made_book an_made_book cd_made_book ct_made_book), sl_made_book⟩)
    (c_made_book : PySem.W.codeIn K cd_made_book "made_book" = true)
    (k_made_book : PySem.W.keepIn K (.ref f_made_book) = true)
    (a_shelves : PySem.W.nsIn K mainGlobals "shelves" = some (some (.ref f_shelves)))
    (l_shelves : K.lookup f_shelves = some ⟨oc_shelves, od_shelves, .func (PySem.W.fnOf "shelves" "shelves" (defArgs (topS 19)) (defBody (topS 19)) (defScope (topS 19)) .none kV_shelves dc_shelves pm_shelves an_shelves cd_shelves ct_shelves), sl_shelves⟩)
    (c_shelves : PySem.W.codeIn K cd_shelves "shelves" = true)
    (k_shelves : PySem.W.keepIn K (.ref f_shelves) = true)
    (a_check_told : PySem.W.nsIn K mainGlobals "check_told" = some (some (.ref f_check_told)))
    (l_check_told : K.lookup f_check_told = some ⟨oc_check_told, od_check_told, .func (PySem.W.fnOf "check_told" "check_told" (defArgs (topS 31)) (defBody (topS 31)) (defScope (topS 31)) .none kV_check_told dc_check_told pm_check_told an_check_told cd_check_told ct_check_told), sl_check_told⟩)
    (c_check_told : PySem.W.codeIn K cd_check_told "check_told" = true)
    (k_check_told : PySem.W.keepIn K (.ref f_check_told) = true)
    (a_lesser : PySem.W.nsIn K mainGlobals "lesser" = some (some (.ref f_lesser)))
    (l_lesser : K.lookup f_lesser = some ⟨oc_lesser, od_lesser, .func (PySem.W.fnOf "lesser" "lesser" (defArgs (topS 32)) (defBody (topS 32)) (defScope (topS 32)) .none kV_lesser dc_lesser pm_lesser an_lesser cd_lesser ct_lesser), sl_lesser⟩)
    (c_lesser : PySem.W.codeIn K cd_lesser "lesser" = true)
    (k_lesser : PySem.W.keepIn K (.ref f_lesser) = true)
    (a_missing : PySem.W.nsIn K mainGlobals "missing" = some (some (.ref f_missing)))
    (l_missing : K.lookup f_missing = some ⟨oc_missing, od_missing, .func (PySem.W.fnOf "missing" "missing" (defArgs (topS 34)) (defBody (topS 34)) (defScope (topS 34)) .none kV_missing dc_missing pm_missing an_missing cd_missing ct_missing), sl_missing⟩)
    (c_missing : PySem.W.codeIn K cd_missing "missing" = true)
    (k_missing : PySem.W.keepIn K (.ref f_missing) = true)
    (a_greater : PySem.W.nsIn K mainGlobals "greater" = some (some (.ref f_greater)))
    (l_greater : K.lookup f_greater = some ⟨oc_greater, od_greater, .func (PySem.W.fnOf "greater" "greater" (defArgs (topS 33)) (defBody (topS 33)) (defScope (topS 33)) .none kV_greater dc_greater pm_greater an_greater cd_greater ct_greater), sl_greater⟩)
    (c_greater : PySem.W.codeIn K cd_greater "greater" = true)
    (k_greater : PySem.W.keepIn K (.ref f_greater) = true)
    (a_is_bearable_pair : PySem.W.nsIn K mainGlobals "is_bearable_pair" = some (some (.ref f_is_bearable_pair)))
    (l_is_bearable_pair : K.lookup f_is_bearable_pair = some ⟨oc_is_bearable_pair, od_is_bearable_pair, .func (PySem.W.fnOf "is_bearable_pair" "is_bearable_pair" (defArgs (topS 35)) (defBody (topS 35)) (defScope (topS 35)) .none kV_is_bearable_pair dc_is_bearable_pair pm_is_bearable_pair an_is_bearable_pair cd_is_bearable_pair ct_is_bearable_pair), sl_is_bearable_pair⟩)
    (c_is_bearable_pair : PySem.W.codeIn K cd_is_bearable_pair "is_bearable_pair" = true)
    (k_is_bearable_pair : PySem.W.keepIn K (.ref f_is_bearable_pair) = true)
    (a_bearable : PySem.W.nsIn K mainGlobals "bearable" = some (some (.ref f_bearable)))
    (l_bearable : K.lookup f_bearable = some ⟨oc_bearable, od_bearable, .func (PySem.W.fnOf "bearable" "bearable" (defArgs (topS 36)) (defBody (topS 36)) (defScope (topS 36)) .none kV_bearable dc_bearable pm_bearable an_bearable (.ref cd_bearable) ct_bearable), sl_bearable⟩)
    (c_bearable : PySem.W.codeIn K (.ref cd_bearable) "bearable" = true)
    (o_bearable : K.lookup cd_bearable = some ⟨.type "code", co_bearable, .fields cv_bearable, cs_bearable⟩)
    (p11_bearable : cv_bearable[11]? = some (.ref Pt_bearable))
    (e11_bearable : cv_bearable.getD 11 .none = .ref Pt_bearable)
    (e18_bearable : cv_bearable.getD 18 .none = .str fi_bearable tf_bearable)
    (e7_bearable : cv_bearable.getD 7 .none = .int fl_bearable tg_bearable)
    (e9_bearable : cv_bearable.getD 9 .none = .bool in_bearable)
    (e10_bearable : cv_bearable.getD 10 .none = .int tn_bearable tt_bearable)
    (ne_bearable : cd_bearable ≠ Pt_bearable)
    (kn_bearable : K.lookup Pt_bearable = none)
    (rec_bearable : ((PyProof.Rows.recsOf qq).any fun e => e.name == "bearable") = true)
    (k_bearable : PySem.W.keepIn K (.ref f_bearable) = true)
    (a_made_charter : PySem.W.nsIn K mainGlobals "made_charter" = some (some (.ref f_made_charter)))
    (l_made_charter : K.lookup f_made_charter = some ⟨oc_made_charter, od_made_charter, .func (PySem.W.fnOf "made_charter" "made_charter" (defArgs (topS 42)) (defBody (topS 42)) (defScope (topS 42)) .none kV_made_charter dc_made_charter pm_made_charter an_made_charter (.ref cd_made_charter) ct_made_charter), sl_made_charter⟩)
    (c_made_charter : PySem.W.codeIn K (.ref cd_made_charter) "made_charter" = true)
    (k_made_charter : PySem.W.keepIn K (.ref f_made_charter) = true)
    (a_is_charter : PySem.W.nsIn K mainGlobals "is_charter" = some (some (.ref f_is_charter)))
    (l_is_charter : K.lookup f_is_charter = some ⟨oc_is_charter, od_is_charter, .func (PySem.W.fnOf "is_charter" "is_charter" (defArgs (topS 43)) (defBody (topS 43)) (defScope (topS 43)) .none kV_is_charter dc_is_charter pm_is_charter an_is_charter (.ref cd_is_charter) ct_is_charter), sl_is_charter⟩)
    (c_is_charter : PySem.W.codeIn K (.ref cd_is_charter) "is_charter" = true)
    (k_is_charter : PySem.W.keepIn K (.ref f_is_charter) = true)
    (a_is_entry : PySem.W.nsIn K mainGlobals "is_entry" = some (some (.ref f_is_entry)))
    (l_is_entry : K.lookup f_is_entry = some ⟨oc_is_entry, od_is_entry, .func (PySem.W.fnOf "is_entry" "is_entry" (defArgs (topS 45)) (defBody (topS 45)) (defScope (topS 45)) .none kV_is_entry dc_is_entry pm_is_entry an_is_entry (.ref cd_is_entry) ct_is_entry), sl_is_entry⟩)
    (c_is_entry : PySem.W.codeIn K (.ref cd_is_entry) "is_entry" = true)
    (k_is_entry : PySem.W.keepIn K (.ref f_is_entry) = true)
    (a_made_charters : PySem.W.nsIn K mainGlobals "made_charters" = some (some (.ref f_made_charters)))
    (l_made_charters : K.lookup f_made_charters = some ⟨oc_made_charters, od_made_charters, .func (PySem.W.fnOf "made_charters" "made_charters" (defArgs (topS 44)) (defBody (topS 44)) (defScope (topS 44)) .none kV_made_charters dc_made_charters pm_made_charters an_made_charters (.ref cd_made_charters) ct_made_charters), sl_made_charters⟩)
    (c_made_charters : PySem.W.codeIn K (.ref cd_made_charters) "made_charters" = true)
    (k_made_charters : PySem.W.keepIn K (.ref f_made_charters) = true)
    (a__law_many_right : PySem.W.nsIn K mainGlobals "_law_many_right" = some (some (.ref f__law_many_right)))
    (l__law_many_right : K.lookup f__law_many_right = some ⟨oc__law_many_right, od__law_many_right, .func (PySem.W.fnOf "_law_many_right" "_law_many_right" (defArgs (topS 60)) (defBody (topS 60)) (defScope (topS 60)) .none kV__law_many_right dc__law_many_right pm__law_many_right an__law_many_right (.ref cd__law_many_right) ct__law_many_right), sl__law_many_right⟩)
    (c__law_many_right : PySem.W.codeIn K (.ref cd__law_many_right) "_law_many_right" = true)
    (o__law_many_right : K.lookup cd__law_many_right = some ⟨.type "code", co__law_many_right, .fields cv__law_many_right, cs__law_many_right⟩)
    (p11__law_many_right : cv__law_many_right[11]? = some (.ref Pt__law_many_right))
    (e11__law_many_right : cv__law_many_right.getD 11 .none = .ref Pt__law_many_right)
    (e18__law_many_right : cv__law_many_right.getD 18 .none = .str fi__law_many_right tf__law_many_right)
    (e7__law_many_right : cv__law_many_right.getD 7 .none = .int fl__law_many_right tg__law_many_right)
    (e9__law_many_right : cv__law_many_right.getD 9 .none = .bool in__law_many_right)
    (e10__law_many_right : cv__law_many_right.getD 10 .none = .int tn__law_many_right tt__law_many_right)
    (ne__law_many_right : cd__law_many_right ≠ Pt__law_many_right)
    (kn__law_many_right : K.lookup Pt__law_many_right = none)
    (rec__law_many_right : ((PyProof.Rows.recsOf qq).any fun e => e.name == "_law_many_right") = true)
    (k__law_many_right : PySem.W.keepIn K (.ref f__law_many_right) = true)
    (a__law_bound : PySem.W.nsIn K mainGlobals "_law_bound" = some (some (.ref f__law_bound)))
    (l__law_bound : K.lookup f__law_bound = some ⟨oc__law_bound, od__law_bound, .func (PySem.W.fnOf "_law_bound" "_law_bound" (defArgs (topS 51)) (defBody (topS 51)) (defScope (topS 51)) .none kV__law_bound dc__law_bound pm__law_bound an__law_bound cd__law_bound ct__law_bound), sl__law_bound⟩)
    (c__law_bound : PySem.W.codeIn K cd__law_bound "_law_bound" = true)
    (k__law_bound : PySem.W.keepIn K (.ref f__law_bound) = true)
    (a__law_row : PySem.W.nsIn K mainGlobals "_law_row" = some (some (.ref f__law_row)))
    (l__law_row : K.lookup f__law_row = some ⟨oc__law_row, od__law_row, .func (PySem.W.fnOf "_law_row" "_law_row" (defArgs (topS 52)) (defBody (topS 52)) (defScope (topS 52)) .none kV__law_row dc__law_row pm__law_row an__law_row cd__law_row ct__law_row), sl__law_row⟩)
    (c__law_row : PySem.W.codeIn K cd__law_row "_law_row" = true)
    (k__law_row : PySem.W.keepIn K (.ref f__law_row) = true)
    (a__law_book : PySem.W.nsIn K mainGlobals "_law_book" = some (some (.ref f__law_book)))
    (l__law_book : K.lookup f__law_book = some ⟨oc__law_book, od__law_book, .func (PySem.W.fnOf "_law_book" "_law_book" (defArgs (topS 53)) (defBody (topS 53)) (defScope (topS 53)) .none kV__law_book dc__law_book pm__law_book an__law_book cd__law_book ct__law_book), sl__law_book⟩)
    (c__law_book : PySem.W.codeIn K cd__law_book "_law_book" = true)
    (k__law_book : PySem.W.keepIn K (.ref f__law_book) = true)
    (a__law_turned : PySem.W.nsIn K mainGlobals "_law_turned" = some (some (.ref f__law_turned)))
    (l__law_turned : K.lookup f__law_turned = some ⟨oc__law_turned, od__law_turned, .func (PySem.W.fnOf "_law_turned" "_law_turned" (defArgs (topS 54)) (defBody (topS 54)) (defScope (topS 54)) .none kV__law_turned dc__law_turned pm__law_turned an__law_turned cd__law_turned ct__law_turned), sl__law_turned⟩)
    (c__law_turned : PySem.W.codeIn K cd__law_turned "_law_turned" = true)
    (k__law_turned : PySem.W.keepIn K (.ref f__law_turned) = true)
    (a__law_pair : PySem.W.nsIn K mainGlobals "_law_pair" = some (some (.ref f__law_pair)))
    (l__law_pair : K.lookup f__law_pair = some ⟨oc__law_pair, od__law_pair, .func (PySem.W.fnOf "_law_pair" "_law_pair" (defArgs (topS 58)) (defBody (topS 58)) (defScope (topS 58)) .none kV__law_pair dc__law_pair pm__law_pair an__law_pair cd__law_pair ct__law_pair), sl__law_pair⟩)
    (c__law_pair : PySem.W.codeIn K cd__law_pair "_law_pair" = true)
    (k__law_pair : PySem.W.keepIn K (.ref f__law_pair) = true)
    (a__law_wrong : PySem.W.nsIn K mainGlobals "_law_wrong" = some (some (.ref f__law_wrong)))
    (l__law_wrong : K.lookup f__law_wrong = some ⟨oc__law_wrong, od__law_wrong, .func (PySem.W.fnOf "_law_wrong" "_law_wrong" (defArgs (topS 59)) (defBody (topS 59)) (defScope (topS 59)) .none kV__law_wrong dc__law_wrong pm__law_wrong an__law_wrong cd__law_wrong ct__law_wrong), sl__law_wrong⟩)
    (c__law_wrong : PySem.W.codeIn K cd__law_wrong "_law_wrong" = true)
    (k__law_wrong : PySem.W.keepIn K (.ref f__law_wrong) = true)
    (a__law_is_told : PySem.W.nsIn K mainGlobals "_law_is_told" = some (some (.ref f__law_is_told)))
    (l__law_is_told : K.lookup f__law_is_told = some ⟨oc__law_is_told, od__law_is_told, .func (PySem.W.fnOf "_law_is_told" "_law_is_told" (defArgs (topS 56)) (defBody (topS 56)) (defScope (topS 56)) .none kV__law_is_told dc__law_is_told pm__law_is_told an__law_is_told (.ref cd__law_is_told) ct__law_is_told), sl__law_is_told⟩)
    (c__law_is_told : PySem.W.codeIn K (.ref cd__law_is_told) "_law_is_told" = true)
    (o__law_is_told : K.lookup cd__law_is_told = some ⟨.type "code", co__law_is_told, .fields cv__law_is_told, cs__law_is_told⟩)
    (p11__law_is_told : cv__law_is_told[11]? = some (.ref Pt__law_is_told))
    (e11__law_is_told : cv__law_is_told.getD 11 .none = .ref Pt__law_is_told)
    (e18__law_is_told : cv__law_is_told.getD 18 .none = .str fi__law_is_told tf__law_is_told)
    (e7__law_is_told : cv__law_is_told.getD 7 .none = .int fl__law_is_told tg__law_is_told)
    (e9__law_is_told : cv__law_is_told.getD 9 .none = .bool in__law_is_told)
    (e10__law_is_told : cv__law_is_told.getD 10 .none = .int tn__law_is_told tt__law_is_told)
    (ne__law_is_told : cd__law_is_told ≠ Pt__law_is_told)
    (kn__law_is_told : K.lookup Pt__law_is_told = none)
    (rec__law_is_told : ((PyProof.Rows.recsOf qq).any fun e => e.name == "_law_is_told") = true)
    (k__law_is_told : PySem.W.keepIn K (.ref f__law_is_told) = true)
    (a__law_bearable : PySem.W.nsIn K mainGlobals "_law_bearable" = some (some (.ref f__law_bearable)))
    (l__law_bearable : K.lookup f__law_bearable = some ⟨oc__law_bearable, od__law_bearable, .func (PySem.W.fnOf "_law_bearable" "_law_bearable" (defArgs (topS 50)) (defBody (topS 50)) (defScope (topS 50)) .none kV__law_bearable dc__law_bearable pm__law_bearable an__law_bearable cd__law_bearable ct__law_bearable), sl__law_bearable⟩)
    (c__law_bearable : PySem.W.codeIn K cd__law_bearable "_law_bearable" = true)
    (k__law_bearable : PySem.W.keepIn K (.ref f__law_bearable) = true)
    (a__law_due : PySem.W.nsIn K mainGlobals "_law_due" = some (some (.ref f__law_due)))
    (l__law_due : K.lookup f__law_due = some ⟨oc__law_due, od__law_due, .func (PySem.W.fnOf "_law_due" "_law_due" (defArgs (topS 57)) (defBody (topS 57)) (defScope (topS 57)) .none kV__law_due dc__law_due pm__law_due an__law_due cd__law_due ct__law_due), sl__law_due⟩)
    (c__law_due : PySem.W.codeIn K cd__law_due "_law_due" = true)
    (k__law_due : PySem.W.keepIn K (.ref f__law_due) = true)
    (a_law : PySem.W.nsIn K mainGlobals "law" = some (some (.ref f_law)))
    (l_law : K.lookup f_law = some ⟨oc_law, od_law, .func (PySem.W.fnOf "law" "law" (defArgs (topS 61)) (defBody (topS 61)) (defScope (topS 61)) .none kV_law dc_law pm_law an_law (.ref cd_law) ct_law), sl_law⟩)
    (c_law : PySem.W.codeIn K (.ref cd_law) "law" = true)
    (k_law : PySem.W.keepIn K (.ref f_law) = true)
    (np__law_many_right_bearable : Pt__law_many_right ≠ Pt_bearable)
    (np__law_is_told_bearable : Pt__law_is_told ≠ Pt_bearable)
    (np__law_is_told__law_many_right : Pt__law_is_told ≠ Pt__law_many_right)
    (b_all : PySem.W.nsIn K mainGlobals "all" = some none)
    (b_bool : PySem.W.nsIn K mainGlobals "bool" = some none)
    (b_enumerate : PySem.W.nsIn K mainGlobals "enumerate" = some none)
    (b_int : PySem.W.nsIn K mainGlobals "int" = some none)
    (b_isinstance : PySem.W.nsIn K mainGlobals "isinstance" = some none)
    (b_len : PySem.W.nsIn K mainGlobals "len" = some none)
    (b_list : PySem.W.nsIn K mainGlobals "list" = some none)
    (b_max : PySem.W.nsIn K mainGlobals "max" = some none)
    (b_min : PySem.W.nsIn K mainGlobals "min" = some none)
    (b_range : PySem.W.nsIn K mainGlobals "range" = some none)
    (b_tuple : PySem.W.nsIn K mainGlobals "tuple" = some none)
    (b_zip : PySem.W.nsIn K mainGlobals "zip" = some none)
    (v_LEAST_NUMBERS : PySem.W.nsIn K mainGlobals "LEAST_NUMBERS" = some (some (.int 3 tk_LEAST_NUMBERS)))
    (v_LEAST_PRIME : PySem.W.nsIn K mainGlobals "LEAST_PRIME" = some (some (.int 41 tk_LEAST_PRIME)))
    (v_MOST_FATE : PySem.W.nsIn K mainGlobals "MOST_FATE" = some (some (.int 64 tk_MOST_FATE)))
    (v_MOST_NUMBERS : PySem.W.nsIn K mainGlobals "MOST_NUMBERS" = some (some (.int 12 tk_MOST_NUMBERS)))
    (v_MOST_PRIME : PySem.W.nsIn K mainGlobals "MOST_PRIME" = some (some (.int 65521 tk_MOST_PRIME)))
    (v_MOST_ROWS : PySem.W.nsIn K mainGlobals "MOST_ROWS" = some (some (.int 24 tk_MOST_ROWS)))
    (v_MOST_SHELVES_books : PySem.W.nsIn K mainGlobals "MOST_SHELVES_books" = some (some (.int 8 tk_MOST_SHELVES_books)))
    (v_MOST_SHELVES_grounds : PySem.W.nsIn K mainGlobals "MOST_SHELVES_grounds" = some (some (.int 8 tk_MOST_SHELVES_grounds))) :
    LamX.LawAtS l w K (L2.CX l.prog w) 15 63 "_law_script" mg fa h := by
  have e := hfa.symm.trans (PySem.W.mg_of X G a_law)
  cases e
  have T : Tx K mg := ⟨PySem.W.mg_none_of X G b_all, PySem.W.mg_none_of X G b_bool, PySem.W.mg_none_of X G b_enumerate, PySem.W.mg_none_of X G b_int, PySem.W.mg_none_of X G b_isinstance, PySem.W.mg_none_of X G b_len, PySem.W.mg_none_of X G b_list, PySem.W.mg_none_of X G b_max, PySem.W.mg_none_of X G b_min, PySem.W.mg_none_of X G b_range, PySem.W.mg_none_of X G b_tuple, PySem.W.mg_none_of X G b_zip, ⟨_, PySem.W.mg_of X G v_LEAST_NUMBERS⟩, ⟨_, PySem.W.mg_of X G v_LEAST_PRIME⟩, ⟨_, PySem.W.mg_of X G v_MOST_FATE⟩, ⟨_, PySem.W.mg_of X G v_MOST_NUMBERS⟩, ⟨_, PySem.W.mg_of X G v_MOST_PRIME⟩, ⟨_, PySem.W.mg_of X G v_MOST_ROWS⟩, ⟨_, PySem.W.mg_of X G v_MOST_SHELVES_books⟩, ⟨_, PySem.W.mg_of X G v_MOST_SHELVES_grounds⟩⟩
  have F__law_pool := fun_mk (st := topS 49) l__law_pool c__law_pool k__law_pool
  have B__law_pool := F__law_pool.binds (ps := ["_law_script"]) fun _ _ _ _ _ _ us hl => match us, hl with | [_], _ => rfl
  have F__law_draw := fun_mk (st := topS 47) l__law_draw c__law_draw k__law_draw
  have B__law_draw := F__law_draw.binds (ps := ["_law_pool_here", "_law_many"]) fun _ _ _ _ _ _ us hl => match us, hl with | [_, _], _ => rfl
  have F__law_pick := fun_mk (st := topS 48) l__law_pick c__law_pick k__law_pick
  have B__law_pick := F__law_pick.binds (ps := ["_law_pool_here", "_law_things"]) fun _ _ _ _ _ _ us hl => match us, hl with | [_, _], _ => rfl
  have F__law_heard := fun_mk (st := topS 55) l__law_heard c__law_heard k__law_heard
  have B__law_heard := F__law_heard.binds (ps := ["_law_call"]) fun _ _ _ _ _ _ us hl => match us, hl with | [_], _ => rfl
  have F_is_volume := fun_mk (st := topS 38) l_is_volume c_is_volume k_is_volume
  have B_is_volume := F_is_volume.binds (ps := ["thing"]) fun _ _ _ _ _ _ us hl => match us, hl with | [_], _ => rfl
  have F_is_whole := fun_mk (st := topS 12) l_is_whole c_is_whole k_is_whole
  have B_is_whole := F_is_whole.binds (ps := ["thing", "low", "high"]) fun _ _ _ _ _ _ us hl => match us, hl with | [_, _, _], _ => rfl
  have F_is_prime := fun_mk (st := topS 13) l_is_prime c_is_prime k_is_prime
  have B_is_prime := F_is_prime.binds (ps := ["n"]) fun _ _ _ _ _ _ us hl => match us, hl with | [_], _ => rfl
  have F_are_points := fun_mk (st := topS 17) l_are_points c_are_points k_are_points
  have B_are_points := F_are_points.binds (ps := ["p", "thing"]) fun _ _ _ _ _ _ us hl => match us, hl with | [_, _], _ => rfl
  have F_made_ground := fun_mk (st := topS 18) l_made_ground c_made_ground k_made_ground
  have B_made_ground := F_made_ground.binds (ps := ["thing"]) fun _ _ _ _ _ _ us hl => match us, hl with | [_], _ => rfl
  have F_is_below := fun_mk (st := topS 21) l_is_below c_is_below k_is_below
  have B_is_below := F_is_below.binds (ps := ["thing", "many"]) fun _ _ _ _ _ _ us hl => match us, hl with | [_, _], _ => rfl
  have F_is_bound := fun_mk (st := topS 26) l_is_bound c_is_bound k_is_bound
  have B_is_bound := F_is_bound.binds (ps := ["thing"]) fun _ _ _ _ _ _ us hl => match us, hl with | [_], _ => rfl
  have F_is_fate := fun_mk (st := topS 27) l_is_fate c_is_fate k_is_fate
  have B_is_fate := F_is_fate.binds (ps := ["thing"]) fun _ _ _ _ _ _ us hl => match us, hl with | [_], _ => rfl
  have F_is_row := fun_mk (st := topS 28) l_is_row c_is_row k_is_row
  have B_is_row := F_is_row.binds (ps := ["many", "thing"]) fun _ _ _ _ _ _ us hl => match us, hl with | [_, _], _ => rfl
  have F_made_book := fun_mk (st := topS 29) l_made_book c_made_book k_made_book
  have B_made_book := F_made_book.binds (ps := ["many", "thing"]) fun _ _ _ _ _ _ us hl => match us, hl with | [_, _], _ => rfl
  have F_shelves := fun_mk (st := topS 19) l_shelves c_shelves k_shelves
  have B_shelves := F_shelves.binds (ps := ["ground"]) fun _ _ _ _ _ _ us hl => match us, hl with | [_], _ => rfl
  have F_check_told := fun_mk (st := topS 31) l_check_told c_check_told k_check_told
  have B_check_told := F_check_told.binds (ps := ["told"]) fun _ _ _ _ _ _ us hl => match us, hl with | [_], _ => rfl
  have F_lesser := fun_mk (st := topS 32) l_lesser c_lesser k_lesser
  have B_lesser := F_lesser.binds (ps := ["one", "other"]) fun _ _ _ _ _ _ us hl => match us, hl with | [_, _], _ => rfl
  have F_missing := fun_mk (st := topS 34) l_missing c_missing k_missing
  have B_missing := F_missing.binds (ps := ["fate", "other", "told"]) fun _ _ _ _ _ _ us hl => match us, hl with | [_, _, _], _ => rfl
  have F_greater := fun_mk (st := topS 33) l_greater c_greater k_greater
  have B_greater := F_greater.binds (ps := ["one", "other"]) fun _ _ _ _ _ _ us hl => match us, hl with | [_, _], _ => rfl
  have F_is_bearable_pair := fun_mk (st := topS 35) l_is_bearable_pair c_is_bearable_pair k_is_bearable_pair
  have B_is_bearable_pair := F_is_bearable_pair.binds (ps := ["row", "other", "told"]) fun _ _ _ _ _ _ us hl => match us, hl with | [_, _, _], _ => rfl
  have F_bearable := fun_mk (st := topS 36) l_bearable c_bearable k_bearable
  have B_bearable := F_bearable.binds (ps := ["ground", "book", "told"]) fun _ _ _ _ _ _ us hl => match us, hl with | [_, _, _], _ => rfl
  have F_made_charter := fun_mk (st := topS 42) l_made_charter c_made_charter k_made_charter
  have B_made_charter := F_made_charter.binds (ps := ["thing"]) fun _ _ _ _ _ _ us hl => match us, hl with | [_], _ => rfl
  have F_is_charter := fun_mk (st := topS 43) l_is_charter c_is_charter k_is_charter
  have B_is_charter := F_is_charter.binds (ps := ["thing"]) fun _ _ _ _ _ _ us hl => match us, hl with | [_], _ => rfl
  have F_is_entry := fun_mk (st := topS 45) l_is_entry c_is_entry k_is_entry
  have B_is_entry := F_is_entry.binds (ps := ["thing", "ahead"]) fun _ _ _ _ _ _ us hl => match us, hl with | [_, _], _ => rfl
  have F_made_charters := fun_mk (st := topS 44) l_made_charters c_made_charters k_made_charters
  have B_made_charters := F_made_charters.binds (ps := ["thing"]) fun _ _ _ _ _ _ us hl => match us, hl with | [_], _ => rfl
  have F__law_many_right := fun_mk (st := topS 60) l__law_many_right c__law_many_right k__law_many_right
  have B__law_many_right := F__law_many_right.binds (ps := ["_law_pool_here", "_law_good", "_law_bad"]) fun _ _ _ _ _ _ us hl => match us, hl with | [_, _, _], _ => rfl
  have F__law_bound := fun_mk (st := topS 51) l__law_bound c__law_bound k__law_bound
  have B__law_bound := F__law_bound.binds (ps := ["_law_pool_here"]) fun _ _ _ _ _ _ us hl => match us, hl with | [_], _ => rfl
  have F__law_row := fun_mk (st := topS 52) l__law_row c__law_row k__law_row
  have B__law_row := F__law_row.binds (ps := ["_law_pool_here", "_law_many"]) fun _ _ _ _ _ _ us hl => match us, hl with | [_, _], _ => rfl
  have F__law_book := fun_mk (st := topS 53) l__law_book c__law_book k__law_book
  have B__law_book := F__law_book.binds (ps := ["_law_pool_here", "_law_many"]) fun _ _ _ _ _ _ us hl => match us, hl with | [_, _], _ => rfl
  have F__law_turned := fun_mk (st := topS 54) l__law_turned c__law_turned k__law_turned
  have B__law_turned := F__law_turned.binds (ps := ["_law_pool_here", "_law_many"]) fun _ _ _ _ _ _ us hl => match us, hl with | [_, _], _ => rfl
  have F__law_pair := fun_mk (st := topS 58) l__law_pair c__law_pair k__law_pair
  have B__law_pair := F__law_pair.binds (ps := ["_law_pool_here"]) fun _ _ _ _ _ _ us hl => match us, hl with | [_], _ => rfl
  have F__law_wrong := fun_mk (st := topS 59) l__law_wrong c__law_wrong k__law_wrong
  have B__law_wrong := F__law_wrong.binds (ps := ["_law_pool_here", "_law_ground", "_law_book_here"]) fun _ _ _ _ _ _ us hl => match us, hl with | [_, _, _], _ => rfl
  have F__law_is_told := fun_mk (st := topS 56) l__law_is_told c__law_is_told k__law_is_told
  have B__law_is_told := F__law_is_told.binds (ps := ["_law_thing", "_law_due_here"]) fun _ _ _ _ _ _ us hl => match us, hl with | [_, _], _ => rfl
  have F__law_bearable := fun_mk (st := topS 50) l__law_bearable c__law_bearable k__law_bearable
  have B__law_bearable := F__law_bearable.binds (ps := ["_law_book_here"]) fun _ _ _ _ _ _ us hl => match us, hl with | [_], _ => rfl
  have F__law_due := fun_mk (st := topS 57) l__law_due c__law_due k__law_due
  have B__law_due := F__law_due.binds (ps := ["_law_ground", "_law_book_here"]) fun _ _ _ _ _ _ us hl => match us, hl with | [_, _], _ => rfl
  have F_law := fun_mk (st := topS 61) l_law c_law k_law
  have B_law := F_law.binds (ps := ["_law_script"]) fun _ _ _ _ _ _ us hl => match us, hl with | [_], _ => rfl
  have FI := fun_mk (st := inClass (topS 1) 0) lI cI kI
  have BI := FI.binds (ps := ["self", "what"]) fun _ _ _ _ _ _ us hl => match us, hl with | [_, _], _ => rfl
  have SI : FnScope ["self", "what"] ["self", "what"] (defScope (inClass (topS 1) 0)) := ⟨rfl, rfl, rfl, by decide +kernel, rfl, by decide +kernel, by decide +kernel⟩
  have two : ∀ {c : Str}, errTab.contains c = true → c = "BadBook" ∨ c = "BadCharter" ∨ c = "BadCharters" ∨ c = "BadGround" ∨ c = "BadMany" ∨ c = "BadTold" ∨ c = "Hopeless" ∨ c = "TooMany" := fun {c} h => by simpa [errTab] using h
  have ht0 := ht
  have EX : ErX K mg := {
    at_ := fun c cls ht hm => by
      rcases two ht with rfl | rfl | rfl | rfl | rfl | rfl | rfl | rfl
      · cases (PySem.W.mg_of X G aC_BadBook).symm.trans hm; exact ⟨_, rfl, ⟨ga_BadBook, gg_BadBook, eC_BadBook, hC_BadBook, nw_BadBook⟩⟩
      · cases (PySem.W.mg_of X G aC_BadCharter).symm.trans hm; exact ⟨_, rfl, ⟨ga_BadCharter, gg_BadCharter, eC_BadCharter, hC_BadCharter, nw_BadCharter⟩⟩
      · cases (PySem.W.mg_of X G aC_BadCharters).symm.trans hm; exact ⟨_, rfl, ⟨ga_BadCharters, gg_BadCharters, eC_BadCharters, hC_BadCharters, nw_BadCharters⟩⟩
      · cases (PySem.W.mg_of X G aC_BadGround).symm.trans hm; exact ⟨_, rfl, ⟨ga_BadGround, gg_BadGround, eC_BadGround, hC_BadGround, nw_BadGround⟩⟩
      · cases (PySem.W.mg_of X G aC_BadMany).symm.trans hm; exact ⟨_, rfl, ⟨ga_BadMany, gg_BadMany, eC_BadMany, hC_BadMany, nw_BadMany⟩⟩
      · cases (PySem.W.mg_of X G aC_BadTold).symm.trans hm; exact ⟨_, rfl, ⟨ga_BadTold, gg_BadTold, eC_BadTold, hC_BadTold, nw_BadTold⟩⟩
      · cases (PySem.W.mg_of X G aC_Hopeless).symm.trans hm; exact ⟨_, rfl, ⟨ga_Hopeless, gg_Hopeless, eC_Hopeless, hC_Hopeless, nw_Hopeless⟩⟩
      · cases (PySem.W.mg_of X G aC_TooMany).symm.trans hm; exact ⟨_, rfl, ⟨ga_TooMany, gg_TooMany, eC_TooMany, hC_TooMany, nw_TooMany⟩⟩
    is_ := fun c cls ht hm => by
      rcases two ht with rfl | rfl | rfl | rfl | rfl | rfl | rfl | rfl
      · cases (PySem.W.mg_of X G aC_BadBook).symm.trans hm; exact ⟨_, rfl, ⟨ga_BadBook, gg_BadBook, eC_BadBook, hC_BadBook, ha_BadBook, hn, ht0, hm_BadBook⟩⟩
      · cases (PySem.W.mg_of X G aC_BadCharter).symm.trans hm; exact ⟨_, rfl, ⟨ga_BadCharter, gg_BadCharter, eC_BadCharter, hC_BadCharter, ha_BadCharter, hn, ht0, hm_BadCharter⟩⟩
      · cases (PySem.W.mg_of X G aC_BadCharters).symm.trans hm; exact ⟨_, rfl, ⟨ga_BadCharters, gg_BadCharters, eC_BadCharters, hC_BadCharters, ha_BadCharters, hn, ht0, hm_BadCharters⟩⟩
      · cases (PySem.W.mg_of X G aC_BadGround).symm.trans hm; exact ⟨_, rfl, ⟨ga_BadGround, gg_BadGround, eC_BadGround, hC_BadGround, ha_BadGround, hn, ht0, hm_BadGround⟩⟩
      · cases (PySem.W.mg_of X G aC_BadMany).symm.trans hm; exact ⟨_, rfl, ⟨ga_BadMany, gg_BadMany, eC_BadMany, hC_BadMany, ha_BadMany, hn, ht0, hm_BadMany⟩⟩
      · cases (PySem.W.mg_of X G aC_BadTold).symm.trans hm; exact ⟨_, rfl, ⟨ga_BadTold, gg_BadTold, eC_BadTold, hC_BadTold, ha_BadTold, hn, ht0, hm_BadTold⟩⟩
      · cases (PySem.W.mg_of X G aC_Hopeless).symm.trans hm; exact ⟨_, rfl, ⟨ga_Hopeless, gg_Hopeless, eC_Hopeless, hC_Hopeless, ha_Hopeless, hn, ht0, hm_Hopeless⟩⟩
      · cases (PySem.W.mg_of X G aC_TooMany).symm.trans hm; exact ⟨_, rfl, ⟨ga_TooMany, gg_TooMany, eC_TooMany, hC_TooMany, ha_TooMany, hn, ht0, hm_TooMany⟩⟩
    n_BadBook := ⟨_, PySem.W.mg_of X G aC_BadBook, fun c cls ht hm => by
      rcases two ht with rfl | rfl | rfl | rfl | rfl | rfl | rfl | rfl
      · cases (PySem.W.mg_of X G aC_BadBook).symm.trans hm; rw [show catches "BadBook" "BadBook" = true from by decide +kernel]; exact PySem.W.exm_ref eC_BadBook hC_BadBook tC_BadBook x_BadBook_BadBook
      · cases (PySem.W.mg_of X G aC_BadCharter).symm.trans hm; rw [show catches "BadBook" "BadCharter" = false from by decide +kernel]; exact PySem.W.exm_ref eC_BadBook hC_BadBook tC_BadBook x_BadBook_BadCharter
      · cases (PySem.W.mg_of X G aC_BadCharters).symm.trans hm; rw [show catches "BadBook" "BadCharters" = false from by decide +kernel]; exact PySem.W.exm_ref eC_BadBook hC_BadBook tC_BadBook x_BadBook_BadCharters
      · cases (PySem.W.mg_of X G aC_BadGround).symm.trans hm; rw [show catches "BadBook" "BadGround" = false from by decide +kernel]; exact PySem.W.exm_ref eC_BadBook hC_BadBook tC_BadBook x_BadBook_BadGround
      · cases (PySem.W.mg_of X G aC_BadMany).symm.trans hm; rw [show catches "BadBook" "BadMany" = false from by decide +kernel]; exact PySem.W.exm_ref eC_BadBook hC_BadBook tC_BadBook x_BadBook_BadMany
      · cases (PySem.W.mg_of X G aC_BadTold).symm.trans hm; rw [show catches "BadBook" "BadTold" = false from by decide +kernel]; exact PySem.W.exm_ref eC_BadBook hC_BadBook tC_BadBook x_BadBook_BadTold
      · cases (PySem.W.mg_of X G aC_Hopeless).symm.trans hm; rw [show catches "BadBook" "Hopeless" = false from by decide +kernel]; exact PySem.W.exm_ref eC_BadBook hC_BadBook tC_BadBook x_BadBook_Hopeless
      · cases (PySem.W.mg_of X G aC_TooMany).symm.trans hm; rw [show catches "BadBook" "TooMany" = false from by decide +kernel]; exact PySem.W.exm_ref eC_BadBook hC_BadBook tC_BadBook x_BadBook_TooMany⟩
    n_BadCharter := ⟨_, PySem.W.mg_of X G aC_BadCharter, fun c cls ht hm => by
      rcases two ht with rfl | rfl | rfl | rfl | rfl | rfl | rfl | rfl
      · cases (PySem.W.mg_of X G aC_BadBook).symm.trans hm; rw [show catches "BadCharter" "BadBook" = false from by decide +kernel]; exact PySem.W.exm_ref eC_BadCharter hC_BadCharter tC_BadCharter x_BadCharter_BadBook
      · cases (PySem.W.mg_of X G aC_BadCharter).symm.trans hm; rw [show catches "BadCharter" "BadCharter" = true from by decide +kernel]; exact PySem.W.exm_ref eC_BadCharter hC_BadCharter tC_BadCharter x_BadCharter_BadCharter
      · cases (PySem.W.mg_of X G aC_BadCharters).symm.trans hm; rw [show catches "BadCharter" "BadCharters" = false from by decide +kernel]; exact PySem.W.exm_ref eC_BadCharter hC_BadCharter tC_BadCharter x_BadCharter_BadCharters
      · cases (PySem.W.mg_of X G aC_BadGround).symm.trans hm; rw [show catches "BadCharter" "BadGround" = false from by decide +kernel]; exact PySem.W.exm_ref eC_BadCharter hC_BadCharter tC_BadCharter x_BadCharter_BadGround
      · cases (PySem.W.mg_of X G aC_BadMany).symm.trans hm; rw [show catches "BadCharter" "BadMany" = false from by decide +kernel]; exact PySem.W.exm_ref eC_BadCharter hC_BadCharter tC_BadCharter x_BadCharter_BadMany
      · cases (PySem.W.mg_of X G aC_BadTold).symm.trans hm; rw [show catches "BadCharter" "BadTold" = false from by decide +kernel]; exact PySem.W.exm_ref eC_BadCharter hC_BadCharter tC_BadCharter x_BadCharter_BadTold
      · cases (PySem.W.mg_of X G aC_Hopeless).symm.trans hm; rw [show catches "BadCharter" "Hopeless" = false from by decide +kernel]; exact PySem.W.exm_ref eC_BadCharter hC_BadCharter tC_BadCharter x_BadCharter_Hopeless
      · cases (PySem.W.mg_of X G aC_TooMany).symm.trans hm; rw [show catches "BadCharter" "TooMany" = false from by decide +kernel]; exact PySem.W.exm_ref eC_BadCharter hC_BadCharter tC_BadCharter x_BadCharter_TooMany⟩
    n_BadCharters := ⟨_, PySem.W.mg_of X G aC_BadCharters, fun c cls ht hm => by
      rcases two ht with rfl | rfl | rfl | rfl | rfl | rfl | rfl | rfl
      · cases (PySem.W.mg_of X G aC_BadBook).symm.trans hm; rw [show catches "BadCharters" "BadBook" = false from by decide +kernel]; exact PySem.W.exm_ref eC_BadCharters hC_BadCharters tC_BadCharters x_BadCharters_BadBook
      · cases (PySem.W.mg_of X G aC_BadCharter).symm.trans hm; rw [show catches "BadCharters" "BadCharter" = false from by decide +kernel]; exact PySem.W.exm_ref eC_BadCharters hC_BadCharters tC_BadCharters x_BadCharters_BadCharter
      · cases (PySem.W.mg_of X G aC_BadCharters).symm.trans hm; rw [show catches "BadCharters" "BadCharters" = true from by decide +kernel]; exact PySem.W.exm_ref eC_BadCharters hC_BadCharters tC_BadCharters x_BadCharters_BadCharters
      · cases (PySem.W.mg_of X G aC_BadGround).symm.trans hm; rw [show catches "BadCharters" "BadGround" = false from by decide +kernel]; exact PySem.W.exm_ref eC_BadCharters hC_BadCharters tC_BadCharters x_BadCharters_BadGround
      · cases (PySem.W.mg_of X G aC_BadMany).symm.trans hm; rw [show catches "BadCharters" "BadMany" = false from by decide +kernel]; exact PySem.W.exm_ref eC_BadCharters hC_BadCharters tC_BadCharters x_BadCharters_BadMany
      · cases (PySem.W.mg_of X G aC_BadTold).symm.trans hm; rw [show catches "BadCharters" "BadTold" = false from by decide +kernel]; exact PySem.W.exm_ref eC_BadCharters hC_BadCharters tC_BadCharters x_BadCharters_BadTold
      · cases (PySem.W.mg_of X G aC_Hopeless).symm.trans hm; rw [show catches "BadCharters" "Hopeless" = false from by decide +kernel]; exact PySem.W.exm_ref eC_BadCharters hC_BadCharters tC_BadCharters x_BadCharters_Hopeless
      · cases (PySem.W.mg_of X G aC_TooMany).symm.trans hm; rw [show catches "BadCharters" "TooMany" = false from by decide +kernel]; exact PySem.W.exm_ref eC_BadCharters hC_BadCharters tC_BadCharters x_BadCharters_TooMany⟩
    n_BadGround := ⟨_, PySem.W.mg_of X G aC_BadGround, fun c cls ht hm => by
      rcases two ht with rfl | rfl | rfl | rfl | rfl | rfl | rfl | rfl
      · cases (PySem.W.mg_of X G aC_BadBook).symm.trans hm; rw [show catches "BadGround" "BadBook" = false from by decide +kernel]; exact PySem.W.exm_ref eC_BadGround hC_BadGround tC_BadGround x_BadGround_BadBook
      · cases (PySem.W.mg_of X G aC_BadCharter).symm.trans hm; rw [show catches "BadGround" "BadCharter" = false from by decide +kernel]; exact PySem.W.exm_ref eC_BadGround hC_BadGround tC_BadGround x_BadGround_BadCharter
      · cases (PySem.W.mg_of X G aC_BadCharters).symm.trans hm; rw [show catches "BadGround" "BadCharters" = false from by decide +kernel]; exact PySem.W.exm_ref eC_BadGround hC_BadGround tC_BadGround x_BadGround_BadCharters
      · cases (PySem.W.mg_of X G aC_BadGround).symm.trans hm; rw [show catches "BadGround" "BadGround" = true from by decide +kernel]; exact PySem.W.exm_ref eC_BadGround hC_BadGround tC_BadGround x_BadGround_BadGround
      · cases (PySem.W.mg_of X G aC_BadMany).symm.trans hm; rw [show catches "BadGround" "BadMany" = false from by decide +kernel]; exact PySem.W.exm_ref eC_BadGround hC_BadGround tC_BadGround x_BadGround_BadMany
      · cases (PySem.W.mg_of X G aC_BadTold).symm.trans hm; rw [show catches "BadGround" "BadTold" = false from by decide +kernel]; exact PySem.W.exm_ref eC_BadGround hC_BadGround tC_BadGround x_BadGround_BadTold
      · cases (PySem.W.mg_of X G aC_Hopeless).symm.trans hm; rw [show catches "BadGround" "Hopeless" = false from by decide +kernel]; exact PySem.W.exm_ref eC_BadGround hC_BadGround tC_BadGround x_BadGround_Hopeless
      · cases (PySem.W.mg_of X G aC_TooMany).symm.trans hm; rw [show catches "BadGround" "TooMany" = false from by decide +kernel]; exact PySem.W.exm_ref eC_BadGround hC_BadGround tC_BadGround x_BadGround_TooMany⟩
    n_Hopeless := ⟨_, PySem.W.mg_of X G aC_Hopeless, fun c cls ht hm => by
      rcases two ht with rfl | rfl | rfl | rfl | rfl | rfl | rfl | rfl
      · cases (PySem.W.mg_of X G aC_BadBook).symm.trans hm; rw [show catches "Hopeless" "BadBook" = false from by decide +kernel]; exact PySem.W.exm_ref eC_Hopeless hC_Hopeless tC_Hopeless x_Hopeless_BadBook
      · cases (PySem.W.mg_of X G aC_BadCharter).symm.trans hm; rw [show catches "Hopeless" "BadCharter" = false from by decide +kernel]; exact PySem.W.exm_ref eC_Hopeless hC_Hopeless tC_Hopeless x_Hopeless_BadCharter
      · cases (PySem.W.mg_of X G aC_BadCharters).symm.trans hm; rw [show catches "Hopeless" "BadCharters" = false from by decide +kernel]; exact PySem.W.exm_ref eC_Hopeless hC_Hopeless tC_Hopeless x_Hopeless_BadCharters
      · cases (PySem.W.mg_of X G aC_BadGround).symm.trans hm; rw [show catches "Hopeless" "BadGround" = false from by decide +kernel]; exact PySem.W.exm_ref eC_Hopeless hC_Hopeless tC_Hopeless x_Hopeless_BadGround
      · cases (PySem.W.mg_of X G aC_BadMany).symm.trans hm; rw [show catches "Hopeless" "BadMany" = false from by decide +kernel]; exact PySem.W.exm_ref eC_Hopeless hC_Hopeless tC_Hopeless x_Hopeless_BadMany
      · cases (PySem.W.mg_of X G aC_BadTold).symm.trans hm; rw [show catches "Hopeless" "BadTold" = false from by decide +kernel]; exact PySem.W.exm_ref eC_Hopeless hC_Hopeless tC_Hopeless x_Hopeless_BadTold
      · cases (PySem.W.mg_of X G aC_Hopeless).symm.trans hm; rw [show catches "Hopeless" "Hopeless" = true from by decide +kernel]; exact PySem.W.exm_ref eC_Hopeless hC_Hopeless tC_Hopeless x_Hopeless_Hopeless
      · cases (PySem.W.mg_of X G aC_TooMany).symm.trans hm; rw [show catches "Hopeless" "TooMany" = false from by decide +kernel]; exact PySem.W.exm_ref eC_Hopeless hC_Hopeless tC_Hopeless x_Hopeless_TooMany⟩
    n_Refused := ⟨_, PySem.W.mg_of X G aC_Refused, fun c cls ht hm => by
      rcases two ht with rfl | rfl | rfl | rfl | rfl | rfl | rfl | rfl
      · cases (PySem.W.mg_of X G aC_BadBook).symm.trans hm; rw [show catches "Refused" "BadBook" = true from by decide +kernel]; exact PySem.W.exm_ref eC_Refused hC_Refused tC_Refused x_Refused_BadBook
      · cases (PySem.W.mg_of X G aC_BadCharter).symm.trans hm; rw [show catches "Refused" "BadCharter" = true from by decide +kernel]; exact PySem.W.exm_ref eC_Refused hC_Refused tC_Refused x_Refused_BadCharter
      · cases (PySem.W.mg_of X G aC_BadCharters).symm.trans hm; rw [show catches "Refused" "BadCharters" = true from by decide +kernel]; exact PySem.W.exm_ref eC_Refused hC_Refused tC_Refused x_Refused_BadCharters
      · cases (PySem.W.mg_of X G aC_BadGround).symm.trans hm; rw [show catches "Refused" "BadGround" = true from by decide +kernel]; exact PySem.W.exm_ref eC_Refused hC_Refused tC_Refused x_Refused_BadGround
      · cases (PySem.W.mg_of X G aC_BadMany).symm.trans hm; rw [show catches "Refused" "BadMany" = true from by decide +kernel]; exact PySem.W.exm_ref eC_Refused hC_Refused tC_Refused x_Refused_BadMany
      · cases (PySem.W.mg_of X G aC_BadTold).symm.trans hm; rw [show catches "Refused" "BadTold" = true from by decide +kernel]; exact PySem.W.exm_ref eC_Refused hC_Refused tC_Refused x_Refused_BadTold
      · cases (PySem.W.mg_of X G aC_Hopeless).symm.trans hm; rw [show catches "Refused" "Hopeless" = true from by decide +kernel]; exact PySem.W.exm_ref eC_Refused hC_Refused tC_Refused x_Refused_Hopeless
      · cases (PySem.W.mg_of X G aC_TooMany).symm.trans hm; rw [show catches "Refused" "TooMany" = true from by decide +kernel]; exact PySem.W.exm_ref eC_Refused hC_Refused tC_Refused x_Refused_TooMany⟩
    n_TooMany := ⟨_, PySem.W.mg_of X G aC_TooMany, fun c cls ht hm => by
      rcases two ht with rfl | rfl | rfl | rfl | rfl | rfl | rfl | rfl
      · cases (PySem.W.mg_of X G aC_BadBook).symm.trans hm; rw [show catches "TooMany" "BadBook" = false from by decide +kernel]; exact PySem.W.exm_ref eC_TooMany hC_TooMany tC_TooMany x_TooMany_BadBook
      · cases (PySem.W.mg_of X G aC_BadCharter).symm.trans hm; rw [show catches "TooMany" "BadCharter" = false from by decide +kernel]; exact PySem.W.exm_ref eC_TooMany hC_TooMany tC_TooMany x_TooMany_BadCharter
      · cases (PySem.W.mg_of X G aC_BadCharters).symm.trans hm; rw [show catches "TooMany" "BadCharters" = false from by decide +kernel]; exact PySem.W.exm_ref eC_TooMany hC_TooMany tC_TooMany x_TooMany_BadCharters
      · cases (PySem.W.mg_of X G aC_BadGround).symm.trans hm; rw [show catches "TooMany" "BadGround" = false from by decide +kernel]; exact PySem.W.exm_ref eC_TooMany hC_TooMany tC_TooMany x_TooMany_BadGround
      · cases (PySem.W.mg_of X G aC_BadMany).symm.trans hm; rw [show catches "TooMany" "BadMany" = false from by decide +kernel]; exact PySem.W.exm_ref eC_TooMany hC_TooMany tC_TooMany x_TooMany_BadMany
      · cases (PySem.W.mg_of X G aC_BadTold).symm.trans hm; rw [show catches "TooMany" "BadTold" = false from by decide +kernel]; exact PySem.W.exm_ref eC_TooMany hC_TooMany tC_TooMany x_TooMany_BadTold
      · cases (PySem.W.mg_of X G aC_Hopeless).symm.trans hm; rw [show catches "TooMany" "Hopeless" = false from by decide +kernel]; exact PySem.W.exm_ref eC_TooMany hC_TooMany tC_TooMany x_TooMany_Hopeless
      · cases (PySem.W.mg_of X G aC_TooMany).symm.trans hm; rw [show catches "TooMany" "TooMany" = true from by decide +kernel]; exact PySem.W.exm_ref eC_TooMany hC_TooMany tC_TooMany x_TooMany_TooMany⟩
    i_Hopeless := ⟨_, PySem.W.mg_of X G aC_Hopeless, fun c C ht hm => by
      rcases two ht with rfl | rfl | rfl | rfl | rfl | rfl | rfl | rfl
      · cases (PySem.W.mg_of X G aC_BadBook).symm.trans hm; rw [show catches "Hopeless" "BadBook" = false from by decide +kernel]; exact y_Hopeless_BadBook
      · cases (PySem.W.mg_of X G aC_BadCharter).symm.trans hm; rw [show catches "Hopeless" "BadCharter" = false from by decide +kernel]; exact y_Hopeless_BadCharter
      · cases (PySem.W.mg_of X G aC_BadCharters).symm.trans hm; rw [show catches "Hopeless" "BadCharters" = false from by decide +kernel]; exact y_Hopeless_BadCharters
      · cases (PySem.W.mg_of X G aC_BadGround).symm.trans hm; rw [show catches "Hopeless" "BadGround" = false from by decide +kernel]; exact y_Hopeless_BadGround
      · cases (PySem.W.mg_of X G aC_BadMany).symm.trans hm; rw [show catches "Hopeless" "BadMany" = false from by decide +kernel]; exact y_Hopeless_BadMany
      · cases (PySem.W.mg_of X G aC_BadTold).symm.trans hm; rw [show catches "Hopeless" "BadTold" = false from by decide +kernel]; exact y_Hopeless_BadTold
      · cases (PySem.W.mg_of X G aC_Hopeless).symm.trans hm; rw [show catches "Hopeless" "Hopeless" = true from by decide +kernel]; exact y_Hopeless_Hopeless
      · cases (PySem.W.mg_of X G aC_TooMany).symm.trans hm; rw [show catches "Hopeless" "TooMany" = false from by decide +kernel]; exact y_Hopeless_TooMany⟩
    i_Refused := ⟨_, PySem.W.mg_of X G aC_Refused, fun c C ht hm => by
      rcases two ht with rfl | rfl | rfl | rfl | rfl | rfl | rfl | rfl
      · cases (PySem.W.mg_of X G aC_BadBook).symm.trans hm; rw [show catches "Refused" "BadBook" = true from by decide +kernel]; exact y_Refused_BadBook
      · cases (PySem.W.mg_of X G aC_BadCharter).symm.trans hm; rw [show catches "Refused" "BadCharter" = true from by decide +kernel]; exact y_Refused_BadCharter
      · cases (PySem.W.mg_of X G aC_BadCharters).symm.trans hm; rw [show catches "Refused" "BadCharters" = true from by decide +kernel]; exact y_Refused_BadCharters
      · cases (PySem.W.mg_of X G aC_BadGround).symm.trans hm; rw [show catches "Refused" "BadGround" = true from by decide +kernel]; exact y_Refused_BadGround
      · cases (PySem.W.mg_of X G aC_BadMany).symm.trans hm; rw [show catches "Refused" "BadMany" = true from by decide +kernel]; exact y_Refused_BadMany
      · cases (PySem.W.mg_of X G aC_BadTold).symm.trans hm; rw [show catches "Refused" "BadTold" = true from by decide +kernel]; exact y_Refused_BadTold
      · cases (PySem.W.mg_of X G aC_Hopeless).symm.trans hm; rw [show catches "Refused" "Hopeless" = true from by decide +kernel]; exact y_Refused_Hopeless
      · cases (PySem.W.mg_of X G aC_TooMany).symm.trans hm; rw [show catches "Refused" "TooMany" = true from by decide +kernel]; exact y_Refused_TooMany⟩ }
  have gp_bearable : h.get? Pt_bearable = some (PySem.W.tabObj #[]) := OT "bearable" f_bearable rec_bearable (PySem.W.mg_of X G a_bearable) cd_bearable Pt_bearable _ _ _ _ _ _ l_bearable rfl rfl o_bearable p11_bearable
  have gp__law_many_right : h.get? Pt__law_many_right = some (PySem.W.tabObj #[]) := OT "_law_many_right" f__law_many_right rec__law_many_right (PySem.W.mg_of X G a__law_many_right) cd__law_many_right Pt__law_many_right _ _ _ _ _ _ l__law_many_right rfl rfl o__law_many_right p11__law_many_right
  have gp__law_is_told : h.get? Pt__law_is_told = some (PySem.W.tabObj #[]) := OT "_law_is_told" f__law_is_told rec__law_is_told (PySem.W.mg_of X G a__law_is_told) cd__law_is_told Pt__law_is_told _ _ _ _ _ _ l__law_is_told rfl rfl o__law_is_told p11__law_is_told
  have H1 : ∀ p ∈ ([(cd_bearable, Pt_bearable), (cd__law_many_right, Pt__law_many_right), (cd__law_is_told, Pt__law_is_told)] : List (Addr × Addr)), h.get? p.2 = some (PySem.W.tabObj #[]) := fun p hp => by
      rcases List.mem_cons.mp hp with rfl | hp
      · exact gp_bearable
      rcases List.mem_cons.mp hp with rfl | hp
      · exact gp__law_many_right
      rcases List.mem_cons.mp hp with rfl | hp
      · exact gp__law_is_told
      cases hp
  have H2 : ∀ p ∈ ([(cd_bearable, Pt_bearable), (cd__law_many_right, Pt__law_many_right), (cd__law_is_told, Pt__law_is_told)] : List (Addr × Addr)), K.lookup p.2 = none := fun p hp => by
      rcases List.mem_cons.mp hp with rfl | hp
      · exact kn_bearable
      rcases List.mem_cons.mp hp with rfl | hp
      · exact kn__law_many_right
      rcases List.mem_cons.mp hp with rfl | hp
      · exact kn__law_is_told
      cases hp
  have H3 : ∀ p ∈ ([(cd_bearable, Pt_bearable), (cd__law_many_right, Pt__law_many_right), (cd__law_is_told, Pt__law_is_told)] : List (Addr × Addr)), PySem.W.CodeHd h p.1 p.2 := fun p hp => by
      rcases List.mem_cons.mp hp with rfl | hp
      · exact code_hd X o_bearable p11_bearable e11_bearable e18_bearable e7_bearable e9_bearable e10_bearable ne_bearable
      rcases List.mem_cons.mp hp with rfl | hp
      · exact code_hd X o__law_many_right p11__law_many_right e11__law_many_right e18__law_many_right e7__law_many_right e9__law_many_right e10__law_many_right ne__law_many_right
      rcases List.mem_cons.mp hp with rfl | hp
      · exact code_hd X o__law_is_told p11__law_is_told e11__law_is_told e18__law_is_told e7__law_is_told e9__law_is_told e10__law_is_told ne__law_is_told
      cases hp
  have H4 : ∀ p ∈ ([(Pt_bearable, ("bearable" ++ (".<locals>." : Str) ++ ("<genexpr>" : Str))), (Pt__law_many_right, ("_law_many_right" ++ (".<locals>." : Str) ++ ("<lambda>" : Str))), (Pt__law_is_told, ("_law_is_told" ++ (".<locals>." : Str) ++ ("<lambda>" : Str)))] : List (Addr × Str)), ∃ c, (c, p.1) ∈ ([(cd_bearable, Pt_bearable), (cd__law_many_right, Pt__law_many_right), (cd__law_is_told, Pt__law_is_told)] : List (Addr × Addr)) := fun p hp => by
      rcases List.mem_cons.mp hp with rfl | hp
      · exact ⟨cd_bearable, (.head _)⟩
      rcases List.mem_cons.mp hp with rfl | hp
      · exact ⟨cd__law_many_right, (.tail _ (.head _))⟩
      rcases List.mem_cons.mp hp with rfl | hp
      · exact ⟨cd__law_is_told, (.tail _ (.tail _ (.head _)))⟩
      cases hp
  have U_bearable : ∀ p ∈ ([(Pt_bearable, ("bearable" ++ (".<locals>." : Str) ++ ("<genexpr>" : Str))), (Pt__law_many_right, ("_law_many_right" ++ (".<locals>." : Str) ++ ("<lambda>" : Str))), (Pt__law_is_told, ("_law_is_told" ++ (".<locals>." : Str) ++ ("<lambda>" : Str)))] : List (Addr × Str)), p.1 = Pt_bearable → p.2 = ("bearable" ++ (".<locals>." : Str) ++ ("<genexpr>" : Str)) := fun p hp he => by
    rcases List.mem_cons.mp hp with rfl | hp
    · exact rfl
    rcases List.mem_cons.mp hp with rfl | hp
    · exact absurd he np__law_many_right_bearable
    rcases List.mem_cons.mp hp with rfl | hp
    · exact absurd he np__law_is_told_bearable
    cases hp
  have U__law_many_right : ∀ p ∈ ([(Pt_bearable, ("bearable" ++ (".<locals>." : Str) ++ ("<genexpr>" : Str))), (Pt__law_many_right, ("_law_many_right" ++ (".<locals>." : Str) ++ ("<lambda>" : Str))), (Pt__law_is_told, ("_law_is_told" ++ (".<locals>." : Str) ++ ("<lambda>" : Str)))] : List (Addr × Str)), p.1 = Pt__law_many_right → p.2 = ("_law_many_right" ++ (".<locals>." : Str) ++ ("<lambda>" : Str)) := fun p hp he => by
    rcases List.mem_cons.mp hp with rfl | hp
    · exact absurd he.symm np__law_many_right_bearable
    rcases List.mem_cons.mp hp with rfl | hp
    · exact rfl
    rcases List.mem_cons.mp hp with rfl | hp
    · exact absurd he np__law_is_told__law_many_right
    cases hp
  have U__law_is_told : ∀ p ∈ ([(Pt_bearable, ("bearable" ++ (".<locals>." : Str) ++ ("<genexpr>" : Str))), (Pt__law_many_right, ("_law_many_right" ++ (".<locals>." : Str) ++ ("<lambda>" : Str))), (Pt__law_is_told, ("_law_is_told" ++ (".<locals>." : Str) ++ ("<lambda>" : Str)))] : List (Addr × Str)), p.1 = Pt__law_is_told → p.2 = ("_law_is_told" ++ (".<locals>." : Str) ++ ("<lambda>" : Str)) := fun p hp he => by
    rcases List.mem_cons.mp hp with rfl | hp
    · exact absurd he.symm np__law_is_told_bearable
    rcases List.mem_cons.mp hp with rfl | hp
    · exact absurd he.symm np__law_is_told__law_many_right
    rcases List.mem_cons.mp hp with rfl | hp
    · exact rfl
    cases hp
  refine law_atT (fd := PySem.W.fnOf "law" "law" (defArgs (topS 61)) (defBody (topS 61)) (defScope (topS 61)) .none kV_law dc_law pm_law an_law (.ref cd_law) ct_law) (cs := [(cd_bearable, Pt_bearable), (cd__law_many_right, Pt__law_many_right), (cd__law_is_told, Pt__law_is_told)]) (TT := [(Pt_bearable, ("bearable" ++ (".<locals>." : Str) ++ ("<genexpr>" : Str))), (Pt__law_many_right, ("_law_many_right" ++ (".<locals>." : Str) ++ ("<lambda>" : Str))), (Pt__law_is_told, ("_law_is_told" ++ (".<locals>." : Str) ++ ("<lambda>" : Str)))]) (den := den_law) H1 H2 H3 (fun s v => ?_) H4 law_true (fun base hb gb hTB => ?_)
  rotate_left
  · have E_BadBook : ErC l.prog w K mg base "BadBook" := ⟨C_BadBook, fI, _, _, PySem.W.mg_of X G aC_BadBook, ⟨⟨_, _, _, _, _, _, _, _, _, _, _, _, _, _, _, lC_BadBook, rC_BadBook⟩, sa_BadBook, eC_BadBook, tC_BadBook, kC_BadBook⟩, iC_BadBook, tI, nw_BadBook, init_ok FI SI rfl rfl rfl, BI⟩
    have E_BadCharter : ErC l.prog w K mg base "BadCharter" := ⟨C_BadCharter, fI, _, _, PySem.W.mg_of X G aC_BadCharter, ⟨⟨_, _, _, _, _, _, _, _, _, _, _, _, _, _, _, lC_BadCharter, rC_BadCharter⟩, sa_BadCharter, eC_BadCharter, tC_BadCharter, kC_BadCharter⟩, iC_BadCharter, tI, nw_BadCharter, init_ok FI SI rfl rfl rfl, BI⟩
    have E_BadCharters : ErC l.prog w K mg base "BadCharters" := ⟨C_BadCharters, fI, _, _, PySem.W.mg_of X G aC_BadCharters, ⟨⟨_, _, _, _, _, _, _, _, _, _, _, _, _, _, _, lC_BadCharters, rC_BadCharters⟩, sa_BadCharters, eC_BadCharters, tC_BadCharters, kC_BadCharters⟩, iC_BadCharters, tI, nw_BadCharters, init_ok FI SI rfl rfl rfl, BI⟩
    have E_BadGround : ErC l.prog w K mg base "BadGround" := ⟨C_BadGround, fI, _, _, PySem.W.mg_of X G aC_BadGround, ⟨⟨_, _, _, _, _, _, _, _, _, _, _, _, _, _, _, lC_BadGround, rC_BadGround⟩, sa_BadGround, eC_BadGround, tC_BadGround, kC_BadGround⟩, iC_BadGround, tI, nw_BadGround, init_ok FI SI rfl rfl rfl, BI⟩
    have E_BadMany : ErC l.prog w K mg base "BadMany" := ⟨C_BadMany, fI, _, _, PySem.W.mg_of X G aC_BadMany, ⟨⟨_, _, _, _, _, _, _, _, _, _, _, _, _, _, _, lC_BadMany, rC_BadMany⟩, sa_BadMany, eC_BadMany, tC_BadMany, kC_BadMany⟩, iC_BadMany, tI, nw_BadMany, init_ok FI SI rfl rfl rfl, BI⟩
    have E_BadTold : ErC l.prog w K mg base "BadTold" := ⟨C_BadTold, fI, _, _, PySem.W.mg_of X G aC_BadTold, ⟨⟨_, _, _, _, _, _, _, _, _, _, _, _, _, _, _, lC_BadTold, rC_BadTold⟩, sa_BadTold, eC_BadTold, tC_BadTold, kC_BadTold⟩, iC_BadTold, tI, nw_BadTold, init_ok FI SI rfl rfl rfl, BI⟩
    have E_Hopeless : ErC l.prog w K mg base "Hopeless" := ⟨C_Hopeless, fI, _, _, PySem.W.mg_of X G aC_Hopeless, ⟨⟨_, _, _, _, _, _, _, _, _, _, _, _, _, _, _, lC_Hopeless, rC_Hopeless⟩, sa_Hopeless, eC_Hopeless, tC_Hopeless, kC_Hopeless⟩, iC_Hopeless, tI, nw_Hopeless, init_ok FI SI rfl rfl rfl, BI⟩
    have E_TooMany : ErC l.prog w K mg base "TooMany" := ⟨C_TooMany, fI, _, _, PySem.W.mg_of X G aC_TooMany, ⟨⟨_, _, _, _, _, _, _, _, _, _, _, _, _, _, _, lC_TooMany, rC_TooMany⟩, sa_TooMany, eC_TooMany, tC_TooMany, kC_TooMany⟩, iC_TooMany, tI, nw_TooMany, init_ok FI SI rfl rfl rfl, BI⟩
    have D__law_pool : Df l.prog w K mg base 1 "_law_pool" 1 den__law_pool := ⟨_, _, _, ok__law_pool F__law_pool T , PySem.W.mg_of X G a__law_pool, k__law_pool, B__law_pool⟩
    have D__law_draw : Df l.prog w K mg base 1 "_law_draw" 2 den__law_draw := ⟨_, _, _, ok__law_draw F__law_draw T , PySem.W.mg_of X G a__law_draw, k__law_draw, B__law_draw⟩
    have D__law_pick : Df l.prog w K mg base 2 "_law_pick" 2 den__law_pick := ⟨_, _, _, ok__law_pick F__law_pick T D__law_draw, PySem.W.mg_of X G a__law_pick, k__law_pick, B__law_pick⟩
    have L__law_heard : LDf l.prog w K mg base "_law_heard" den__law_heard := ⟨f__law_heard, _, _, _, _, _, _, _, _, _, _, _, _, _, _, _, PySem.W.mg_of X G a__law_heard, k__law_heard, l__law_heard, c__law_heard, B__law_heard, sc__law_heard, rfl, .inl rfl, by decide, by decide, ok__law_heard T EX⟩
    have D_is_volume : Df l.prog w K mg base 1 "is_volume" 1 den_is_volume := ⟨_, _, _, ok_is_volume F_is_volume T , PySem.W.mg_of X G a_is_volume, k_is_volume, B_is_volume⟩
    have D_is_whole : Df l.prog w K mg base 1 "is_whole" 3 den_is_whole := ⟨_, _, _, ok_is_whole F_is_whole T , PySem.W.mg_of X G a_is_whole, k_is_whole, B_is_whole⟩
    have D_is_prime : Df l.prog w K mg base 2 "is_prime" 1 den_is_prime := ⟨_, _, _, ok_is_prime F_is_prime T D_is_whole, PySem.W.mg_of X G a_is_prime, k_is_prime, B_is_prime⟩
    have D_are_points : Df l.prog w K mg base 2 "are_points" 2 den_are_points := ⟨_, _, _, ok_are_points F_are_points T D_is_whole, PySem.W.mg_of X G a_are_points, k_are_points, B_are_points⟩
    have D_made_ground : Df l.prog w K mg base 3 "made_ground" 1 den_made_ground := ⟨_, _, _, ok_made_ground F_made_ground T D_is_prime D_is_whole D_are_points E_BadGround, PySem.W.mg_of X G a_made_ground, k_made_ground, B_made_ground⟩
    have D_is_below : Df l.prog w K mg base 1 "is_below" 2 den_is_below := ⟨_, _, _, ok_is_below F_is_below T , PySem.W.mg_of X G a_is_below, k_is_below, B_is_below⟩
    have D_is_bound : Df l.prog w K mg base 2 "is_bound" 1 den_is_bound := ⟨_, _, _, ok_is_bound F_is_bound T D_is_below, PySem.W.mg_of X G a_is_bound, k_is_bound, B_is_bound⟩
    have D_is_fate : Df l.prog w K mg base 3 "is_fate" 1 den_is_fate := ⟨_, _, _, ok_is_fate F_is_fate T D_is_bound, PySem.W.mg_of X G a_is_fate, k_is_fate, B_is_fate⟩
    have D_is_row : Df l.prog w K mg base 4 "is_row" 2 den_is_row := ⟨_, _, _, ok_is_row F_is_row T D_is_fate, PySem.W.mg_of X G a_is_row, k_is_row, B_is_row⟩
    have D_made_book : Df l.prog w K mg base 5 "made_book" 2 den_made_book := ⟨_, _, _, ok_made_book F_made_book T D_is_below D_is_row E_BadMany E_BadBook E_TooMany, PySem.W.mg_of X G a_made_book, k_made_book, B_made_book⟩
    have D_shelves : Df l.prog w K mg base 4 "shelves" 1 den_shelves := ⟨_, _, _, ok_shelves F_shelves T D_made_ground, PySem.W.mg_of X G a_shelves, k_shelves, B_shelves⟩
    have D_check_told : Df l.prog w K mg base 3 "check_told" 1 den_check_told := ⟨_, _, _, ok_check_told F_check_told T E_BadTold, PySem.W.mg_of X G a_check_told, k_check_told, B_check_told⟩
    have D_lesser : Df l.prog w K mg base 1 "lesser" 2 den_lesser := ⟨_, _, _, ok_lesser F_lesser T , PySem.W.mg_of X G a_lesser, k_lesser, B_lesser⟩
    have D_missing : Df l.prog w K mg base 2 "missing" 3 den_missing := ⟨_, _, _, ok_missing F_missing T D_lesser, PySem.W.mg_of X G a_missing, k_missing, B_missing⟩
    have D_greater : Df l.prog w K mg base 1 "greater" 2 den_greater := ⟨_, _, _, ok_greater F_greater T , PySem.W.mg_of X G a_greater, k_greater, B_greater⟩
    have D_is_bearable_pair : Df l.prog w K mg base 3 "is_bearable_pair" 3 den_is_bearable_pair := ⟨_, _, _, ok_is_bearable_pair F_is_bearable_pair T D_missing D_greater, PySem.W.mg_of X G a_is_bearable_pair, k_is_bearable_pair, B_is_bearable_pair⟩
    have D_bearable : DfT l.prog w K mg base [(Pt_bearable, ("bearable" ++ (".<locals>." : Str) ++ ("<genexpr>" : Str))), (Pt__law_many_right, ("_law_many_right" ++ (".<locals>." : Str) ++ ("<lambda>" : Str))), (Pt__law_is_told, ("_law_is_told" ++ (".<locals>." : Str) ++ ("<lambda>" : Str)))] 7 "bearable" 3 den_bearable := ⟨_, _, _, ok_bearable l_bearable c_bearable T (hTB (cd_bearable, Pt_bearable) (.head _)) (.head _) U_bearable D_made_ground D_made_book D_shelves D_check_told D_is_bearable_pair, PySem.W.mg_of X G a_bearable, k_bearable, B_bearable⟩
    have D_made_charter : DfT l.prog w K mg base [(Pt_bearable, ("bearable" ++ (".<locals>." : Str) ++ ("<genexpr>" : Str))), (Pt__law_many_right, ("_law_many_right" ++ (".<locals>." : Str) ++ ("<lambda>" : Str))), (Pt__law_is_told, ("_law_is_told" ++ (".<locals>." : Str) ++ ("<lambda>" : Str)))] 8 "made_charter" 1 den_made_charter := ⟨_, _, _, ok_made_charter l_made_charter c_made_charter T  D_made_ground D_made_book D_shelves D_bearable E_BadCharter E_Hopeless, PySem.W.mg_of X G a_made_charter, k_made_charter, B_made_charter⟩
    have D_is_charter : DfT l.prog w K mg base [(Pt_bearable, ("bearable" ++ (".<locals>." : Str) ++ ("<genexpr>" : Str))), (Pt__law_many_right, ("_law_many_right" ++ (".<locals>." : Str) ++ ("<lambda>" : Str))), (Pt__law_is_told, ("_law_is_told" ++ (".<locals>." : Str) ++ ("<lambda>" : Str)))] 9 "is_charter" 1 den_is_charter := ⟨_, _, _, ok_is_charter l_is_charter c_is_charter T  D_made_charter EX, PySem.W.mg_of X G a_is_charter, k_is_charter, B_is_charter⟩
    have D_is_entry : DfT l.prog w K mg base [(Pt_bearable, ("bearable" ++ (".<locals>." : Str) ++ ("<genexpr>" : Str))), (Pt__law_many_right, ("_law_many_right" ++ (".<locals>." : Str) ++ ("<lambda>" : Str))), (Pt__law_is_told, ("_law_is_told" ++ (".<locals>." : Str) ++ ("<lambda>" : Str)))] 10 "is_entry" 2 den_is_entry := ⟨_, _, _, ok_is_entry l_is_entry c_is_entry T  D_is_volume D_is_charter, PySem.W.mg_of X G a_is_entry, k_is_entry, B_is_entry⟩
    have D_made_charters : DfT l.prog w K mg base [(Pt_bearable, ("bearable" ++ (".<locals>." : Str) ++ ("<genexpr>" : Str))), (Pt__law_many_right, ("_law_many_right" ++ (".<locals>." : Str) ++ ("<lambda>" : Str))), (Pt__law_is_told, ("_law_is_told" ++ (".<locals>." : Str) ++ ("<lambda>" : Str)))] 11 "made_charters" 1 den_made_charters := ⟨_, _, _, ok_made_charters l_made_charters c_made_charters T  D_is_entry E_BadCharters, PySem.W.mg_of X G a_made_charters, k_made_charters, B_made_charters⟩
    have D__law_many_right : DfT l.prog w K mg base [(Pt_bearable, ("bearable" ++ (".<locals>." : Str) ++ ("<genexpr>" : Str))), (Pt__law_many_right, ("_law_many_right" ++ (".<locals>." : Str) ++ ("<lambda>" : Str))), (Pt__law_is_told, ("_law_is_told" ++ (".<locals>." : Str) ++ ("<lambda>" : Str)))] 14 "_law_many_right" 3 den__law_many_right := ⟨_, _, _, ok__law_many_right l__law_many_right c__law_many_right T (hTB (cd__law_many_right, Pt__law_many_right) (.tail _ (.head _))) (.tail _ (.head _)) U__law_many_right L__law_heard D__law_draw D_made_charters D__law_pick, PySem.W.mg_of X G a__law_many_right, k__law_many_right, B__law_many_right⟩
    have D__law_bound : Df l.prog w K mg base 3 "_law_bound" 1 den__law_bound := ⟨_, _, _, ok__law_bound F__law_bound T D__law_pick, PySem.W.mg_of X G a__law_bound, k__law_bound, B__law_bound⟩
    have D__law_row : Df l.prog w K mg base 4 "_law_row" 2 den__law_row := ⟨_, _, _, ok__law_row F__law_row T D__law_draw D__law_bound, PySem.W.mg_of X G a__law_row, k__law_row, B__law_row⟩
    have D__law_book : Df l.prog w K mg base 5 "_law_book" 2 den__law_book := ⟨_, _, _, ok__law_book F__law_book T D__law_draw D__law_row, PySem.W.mg_of X G a__law_book, k__law_book, B__law_book⟩
    have D__law_turned : Df l.prog w K mg base 2 "_law_turned" 2 den__law_turned := ⟨_, _, _, ok__law_turned F__law_turned T D__law_draw, PySem.W.mg_of X G a__law_turned, k__law_turned, B__law_turned⟩
    have D__law_pair : Df l.prog w K mg base 6 "_law_pair" 1 den__law_pair := ⟨_, _, _, ok__law_pair F__law_pair T D__law_pick D__law_draw D__law_turned D__law_book, PySem.W.mg_of X G a__law_pair, k__law_pair, B__law_pair⟩
    have D__law_wrong : Df l.prog w K mg base 3 "_law_wrong" 3 den__law_wrong := ⟨_, _, _, ok__law_wrong F__law_wrong T D__law_draw D__law_pick, PySem.W.mg_of X G a__law_wrong, k__law_wrong, B__law_wrong⟩
    have D__law_is_told : DfT l.prog w K mg base [(Pt_bearable, ("bearable" ++ (".<locals>." : Str) ++ ("<genexpr>" : Str))), (Pt__law_many_right, ("_law_many_right" ++ (".<locals>." : Str) ++ ("<lambda>" : Str))), (Pt__law_is_told, ("_law_is_told" ++ (".<locals>." : Str) ++ ("<lambda>" : Str)))] 11 "_law_is_told" 2 den__law_is_told := ⟨_, _, _, ok__law_is_told l__law_is_told c__law_is_told T (hTB (cd__law_is_told, Pt__law_is_told) (.tail _ (.tail _ (.head _)))) (.tail _ (.tail _ (.head _))) U__law_is_told L__law_heard D_is_charter D_made_charter, PySem.W.mg_of X G a__law_is_told, k__law_is_told, B__law_is_told⟩
    have D__law_bearable : Df l.prog w K mg base 1 "_law_bearable" 1 den__law_bearable := ⟨_, _, _, ok__law_bearable F__law_bearable T , PySem.W.mg_of X G a__law_bearable, k__law_bearable, B__law_bearable⟩
    have D__law_due : Df l.prog w K mg base 2 "_law_due" 2 den__law_due := ⟨_, _, _, ok__law_due F__law_due T D__law_bearable, PySem.W.mg_of X G a__law_due, k__law_due, B__law_due⟩
    exact ok_law (P := l.prog) (w := w) (base := base) l_law c_law T  D__law_pool D__law_is_told D__law_pair D__law_due D__law_wrong D__law_many_right
  · exact .of_eq rfl
end FSEnd
open PySem PySem.W PyProof.Rows
set_option maxRecDepth 100000 in
set_option maxHeartbeats 0 in
theorem PySem.Challenge.cw_firstsafe_k60_charters_holds : PySem.Challenge.rw_firstsafe_k60_charters.Holds := by
  w_on; o_law; k_head; (case hw => w_witness2)
  k_fill
  refine LamX.walk_ofAll (l := PySem.Challenge.rw_firstsafe_k60_charters) (n := 63) (CX := fun w => L2.CX (PySem.Challenge.rw_firstsafe_k60_charters).prog w) (k := 15) (x := "_law_script") rfl (by decide) rfl ⟨rfl, by decide, by decide⟩ (fun w h Y => Y.1) ?F (fun _ _ _ _ _ z => by
    obtain ⟨_, _, _, _, _, _, _, _, _, _, _, _, z⟩ := z
    exact z)
  case F =>
    intro w mg fa h Y KX G hmg OT
    refine' FSEnd.all_mk KX G hmg OT ?aC_BadBook ?lC_BadBook ?rC_BadBook ?sa_BadBook ?ga_BadBook ?gg_BadBook ?nw_BadBook ?kC_BadBook ?eC_BadBook ?tC_BadBook ?hC_BadBook ?iC_BadBook ?ha_BadBook ?hm_BadBook ?aC_BadCharter ?lC_BadCharter ?rC_BadCharter ?sa_BadCharter ?ga_BadCharter ?gg_BadCharter ?nw_BadCharter ?kC_BadCharter ?eC_BadCharter ?tC_BadCharter ?hC_BadCharter ?iC_BadCharter ?ha_BadCharter ?hm_BadCharter ?aC_BadCharters ?lC_BadCharters ?rC_BadCharters ?sa_BadCharters ?ga_BadCharters ?gg_BadCharters ?nw_BadCharters ?kC_BadCharters ?eC_BadCharters ?tC_BadCharters ?hC_BadCharters ?iC_BadCharters ?ha_BadCharters ?hm_BadCharters ?aC_BadGround ?lC_BadGround ?rC_BadGround ?sa_BadGround ?ga_BadGround ?gg_BadGround ?nw_BadGround ?kC_BadGround ?eC_BadGround ?tC_BadGround ?hC_BadGround ?iC_BadGround ?ha_BadGround ?hm_BadGround ?aC_BadMany ?lC_BadMany ?rC_BadMany ?sa_BadMany ?ga_BadMany ?gg_BadMany ?nw_BadMany ?kC_BadMany ?eC_BadMany ?tC_BadMany ?hC_BadMany ?iC_BadMany ?ha_BadMany ?hm_BadMany ?aC_BadTold ?lC_BadTold ?rC_BadTold ?sa_BadTold ?ga_BadTold ?gg_BadTold ?nw_BadTold ?kC_BadTold ?eC_BadTold ?tC_BadTold ?hC_BadTold ?iC_BadTold ?ha_BadTold ?hm_BadTold ?aC_Hopeless ?lC_Hopeless ?rC_Hopeless ?sa_Hopeless ?ga_Hopeless ?gg_Hopeless ?nw_Hopeless ?kC_Hopeless ?eC_Hopeless ?tC_Hopeless ?hC_Hopeless ?iC_Hopeless ?ha_Hopeless ?hm_Hopeless ?aC_Refused ?lC_Refused ?rC_Refused ?sa_Refused ?ga_Refused ?gg_Refused ?nw_Refused ?kC_Refused ?eC_Refused ?tC_Refused ?hC_Refused ?aC_TooMany ?lC_TooMany ?rC_TooMany ?sa_TooMany ?ga_TooMany ?gg_TooMany ?nw_TooMany ?kC_TooMany ?eC_TooMany ?tC_TooMany ?hC_TooMany ?iC_TooMany ?ha_TooMany ?hm_TooMany ?hn ?ht ?tI ?lI ?cI ?kI ?x_BadBook_BadBook ?x_BadBook_BadCharter ?x_BadBook_BadCharters ?x_BadBook_BadGround ?x_BadBook_BadMany ?x_BadBook_BadTold ?x_BadBook_Hopeless ?x_BadBook_TooMany ?x_BadCharter_BadBook ?x_BadCharter_BadCharter ?x_BadCharter_BadCharters ?x_BadCharter_BadGround ?x_BadCharter_BadMany ?x_BadCharter_BadTold ?x_BadCharter_Hopeless ?x_BadCharter_TooMany ?x_BadCharters_BadBook ?x_BadCharters_BadCharter ?x_BadCharters_BadCharters ?x_BadCharters_BadGround ?x_BadCharters_BadMany ?x_BadCharters_BadTold ?x_BadCharters_Hopeless ?x_BadCharters_TooMany ?x_BadGround_BadBook ?x_BadGround_BadCharter ?x_BadGround_BadCharters ?x_BadGround_BadGround ?x_BadGround_BadMany ?x_BadGround_BadTold ?x_BadGround_Hopeless ?x_BadGround_TooMany ?x_Hopeless_BadBook ?x_Hopeless_BadCharter ?x_Hopeless_BadCharters ?x_Hopeless_BadGround ?x_Hopeless_BadMany ?x_Hopeless_BadTold ?x_Hopeless_Hopeless ?x_Hopeless_TooMany ?x_Refused_BadBook ?x_Refused_BadCharter ?x_Refused_BadCharters ?x_Refused_BadGround ?x_Refused_BadMany ?x_Refused_BadTold ?x_Refused_Hopeless ?x_Refused_TooMany ?x_TooMany_BadBook ?x_TooMany_BadCharter ?x_TooMany_BadCharters ?x_TooMany_BadGround ?x_TooMany_BadMany ?x_TooMany_BadTold ?x_TooMany_Hopeless ?x_TooMany_TooMany ?y_Hopeless_BadBook ?y_Hopeless_BadCharter ?y_Hopeless_BadCharters ?y_Hopeless_BadGround ?y_Hopeless_BadMany ?y_Hopeless_BadTold ?y_Hopeless_Hopeless ?y_Hopeless_TooMany ?y_Refused_BadBook ?y_Refused_BadCharter ?y_Refused_BadCharters ?y_Refused_BadGround ?y_Refused_BadMany ?y_Refused_BadTold ?y_Refused_Hopeless ?y_Refused_TooMany ?a__law_pool ?l__law_pool ?c__law_pool ?k__law_pool ?a__law_draw ?l__law_draw ?c__law_draw ?k__law_draw ?a__law_pick ?l__law_pick ?c__law_pick ?k__law_pick ?a__law_heard ?l__law_heard ?c__law_heard ?k__law_heard ?a_is_volume ?l_is_volume ?c_is_volume ?k_is_volume ?a_is_whole ?l_is_whole ?c_is_whole ?k_is_whole ?a_is_prime ?l_is_prime ?c_is_prime ?k_is_prime ?a_are_points ?l_are_points ?c_are_points ?k_are_points ?a_made_ground ?l_made_ground ?c_made_ground ?k_made_ground ?a_is_below ?l_is_below ?c_is_below ?k_is_below ?a_is_bound ?l_is_bound ?c_is_bound ?k_is_bound ?a_is_fate ?l_is_fate ?c_is_fate ?k_is_fate ?a_is_row ?l_is_row ?c_is_row ?k_is_row ?a_made_book ?l_made_book ?c_made_book ?k_made_book ?a_shelves ?l_shelves ?c_shelves ?k_shelves ?a_check_told ?l_check_told ?c_check_told ?k_check_told ?a_lesser ?l_lesser ?c_lesser ?k_lesser ?a_missing ?l_missing ?c_missing ?k_missing ?a_greater ?l_greater ?c_greater ?k_greater ?a_is_bearable_pair ?l_is_bearable_pair ?c_is_bearable_pair ?k_is_bearable_pair ?a_bearable ?l_bearable ?c_bearable ?o_bearable ?p11_bearable ?e11_bearable ?e18_bearable ?e7_bearable ?e9_bearable ?e10_bearable ?ne_bearable ?kn_bearable ?rec_bearable ?k_bearable ?a_made_charter ?l_made_charter ?c_made_charter ?k_made_charter ?a_is_charter ?l_is_charter ?c_is_charter ?k_is_charter ?a_is_entry ?l_is_entry ?c_is_entry ?k_is_entry ?a_made_charters ?l_made_charters ?c_made_charters ?k_made_charters ?a__law_many_right ?l__law_many_right ?c__law_many_right ?o__law_many_right ?p11__law_many_right ?e11__law_many_right ?e18__law_many_right ?e7__law_many_right ?e9__law_many_right ?e10__law_many_right ?ne__law_many_right ?kn__law_many_right ?rec__law_many_right ?k__law_many_right ?a__law_bound ?l__law_bound ?c__law_bound ?k__law_bound ?a__law_row ?l__law_row ?c__law_row ?k__law_row ?a__law_book ?l__law_book ?c__law_book ?k__law_book ?a__law_turned ?l__law_turned ?c__law_turned ?k__law_turned ?a__law_pair ?l__law_pair ?c__law_pair ?k__law_pair ?a__law_wrong ?l__law_wrong ?c__law_wrong ?k__law_wrong ?a__law_is_told ?l__law_is_told ?c__law_is_told ?o__law_is_told ?p11__law_is_told ?e11__law_is_told ?e18__law_is_told ?e7__law_is_told ?e9__law_is_told ?e10__law_is_told ?ne__law_is_told ?kn__law_is_told ?rec__law_is_told ?k__law_is_told ?a__law_bearable ?l__law_bearable ?c__law_bearable ?k__law_bearable ?a__law_due ?l__law_due ?c__law_due ?k__law_due ?a_law ?l_law ?c_law ?k_law ?np__law_many_right_bearable ?np__law_is_told_bearable ?np__law_is_told__law_many_right ?b_all ?b_bool ?b_enumerate ?b_int ?b_isinstance ?b_len ?b_list ?b_max ?b_min ?b_range ?b_tuple ?b_zip ?v_LEAST_NUMBERS ?v_LEAST_PRIME ?v_MOST_FATE ?v_MOST_NUMBERS ?v_MOST_PRIME ?v_MOST_ROWS ?v_MOST_SHELVES_books ?v_MOST_SHELVES_grounds
    (case aC_BadBook => k_is)
    (case lC_BadBook => k_is)
    (case rC_BadBook => decide +kernel)
    (case sa_BadBook => k_is)
    (case ga_BadBook => k_is)
    (case gg_BadBook => k_is)
    (case nw_BadBook => k_is)
    (case kC_BadBook => k_is)
    (case eC_BadBook => k_is)
    (case tC_BadBook => k_is)
    (case hC_BadBook => k_is)
    (case iC_BadBook => k_is)
    (case ha_BadBook => k_is)
    (case hm_BadBook => k_is)
    (case aC_BadCharter => k_is)
    (case lC_BadCharter => k_is)
    (case rC_BadCharter => decide +kernel)
    (case sa_BadCharter => k_is)
    (case ga_BadCharter => k_is)
    (case gg_BadCharter => k_is)
    (case nw_BadCharter => k_is)
    (case kC_BadCharter => k_is)
    (case eC_BadCharter => k_is)
    (case tC_BadCharter => k_is)
    (case hC_BadCharter => k_is)
    (case iC_BadCharter => k_is)
    (case ha_BadCharter => k_is)
    (case hm_BadCharter => k_is)
    (case aC_BadCharters => k_is)
    (case lC_BadCharters => k_is)
    (case rC_BadCharters => decide +kernel)
    (case sa_BadCharters => k_is)
    (case ga_BadCharters => k_is)
    (case gg_BadCharters => k_is)
    (case nw_BadCharters => k_is)
    (case kC_BadCharters => k_is)
    (case eC_BadCharters => k_is)
    (case tC_BadCharters => k_is)
    (case hC_BadCharters => k_is)
    (case iC_BadCharters => k_is)
    (case ha_BadCharters => k_is)
    (case hm_BadCharters => k_is)
    (case aC_BadGround => k_is)
    (case lC_BadGround => k_is)
    (case rC_BadGround => decide +kernel)
    (case sa_BadGround => k_is)
    (case ga_BadGround => k_is)
    (case gg_BadGround => k_is)
    (case nw_BadGround => k_is)
    (case kC_BadGround => k_is)
    (case eC_BadGround => k_is)
    (case tC_BadGround => k_is)
    (case hC_BadGround => k_is)
    (case iC_BadGround => k_is)
    (case ha_BadGround => k_is)
    (case hm_BadGround => k_is)
    (case aC_BadMany => k_is)
    (case lC_BadMany => k_is)
    (case rC_BadMany => decide +kernel)
    (case sa_BadMany => k_is)
    (case ga_BadMany => k_is)
    (case gg_BadMany => k_is)
    (case nw_BadMany => k_is)
    (case kC_BadMany => k_is)
    (case eC_BadMany => k_is)
    (case tC_BadMany => k_is)
    (case hC_BadMany => k_is)
    (case iC_BadMany => k_is)
    (case ha_BadMany => k_is)
    (case hm_BadMany => k_is)
    (case aC_BadTold => k_is)
    (case lC_BadTold => k_is)
    (case rC_BadTold => decide +kernel)
    (case sa_BadTold => k_is)
    (case ga_BadTold => k_is)
    (case gg_BadTold => k_is)
    (case nw_BadTold => k_is)
    (case kC_BadTold => k_is)
    (case eC_BadTold => k_is)
    (case tC_BadTold => k_is)
    (case hC_BadTold => k_is)
    (case iC_BadTold => k_is)
    (case ha_BadTold => k_is)
    (case hm_BadTold => k_is)
    (case aC_Hopeless => k_is)
    (case lC_Hopeless => k_is)
    (case rC_Hopeless => decide +kernel)
    (case sa_Hopeless => k_is)
    (case ga_Hopeless => k_is)
    (case gg_Hopeless => k_is)
    (case nw_Hopeless => k_is)
    (case kC_Hopeless => k_is)
    (case eC_Hopeless => k_is)
    (case tC_Hopeless => k_is)
    (case hC_Hopeless => k_is)
    (case iC_Hopeless => k_is)
    (case ha_Hopeless => k_is)
    (case hm_Hopeless => k_is)
    (case aC_Refused => k_is)
    (case lC_Refused => k_is)
    (case rC_Refused => decide +kernel)
    (case sa_Refused => k_is)
    (case ga_Refused => k_is)
    (case gg_Refused => k_is)
    (case nw_Refused => k_is)
    (case kC_Refused => k_is)
    (case eC_Refused => k_is)
    (case tC_Refused => k_is)
    (case hC_Refused => k_is)
    (case aC_TooMany => k_is)
    (case lC_TooMany => k_is)
    (case rC_TooMany => decide +kernel)
    (case sa_TooMany => k_is)
    (case ga_TooMany => k_is)
    (case gg_TooMany => k_is)
    (case nw_TooMany => k_is)
    (case kC_TooMany => k_is)
    (case eC_TooMany => k_is)
    (case tC_TooMany => k_is)
    (case hC_TooMany => k_is)
    (case iC_TooMany => k_is)
    (case ha_TooMany => k_is)
    (case hm_TooMany => k_is)
    (case hn => k_is)
    (case ht => k_is)
    (case tI => k_is)
    (case lI => k_is)
    (case cI => k_is)
    (case kI => k_is)
    (case x_BadBook_BadBook => first | rfl | k_is)
    (case x_BadBook_BadCharter => first | rfl | k_is)
    (case x_BadBook_BadCharters => first | rfl | k_is)
    (case x_BadBook_BadGround => first | rfl | k_is)
    (case x_BadBook_BadMany => first | rfl | k_is)
    (case x_BadBook_BadTold => first | rfl | k_is)
    (case x_BadBook_Hopeless => first | rfl | k_is)
    (case x_BadBook_TooMany => first | rfl | k_is)
    (case x_BadCharter_BadBook => first | rfl | k_is)
    (case x_BadCharter_BadCharter => first | rfl | k_is)
    (case x_BadCharter_BadCharters => first | rfl | k_is)
    (case x_BadCharter_BadGround => first | rfl | k_is)
    (case x_BadCharter_BadMany => first | rfl | k_is)
    (case x_BadCharter_BadTold => first | rfl | k_is)
    (case x_BadCharter_Hopeless => first | rfl | k_is)
    (case x_BadCharter_TooMany => first | rfl | k_is)
    (case x_BadCharters_BadBook => first | rfl | k_is)
    (case x_BadCharters_BadCharter => first | rfl | k_is)
    (case x_BadCharters_BadCharters => first | rfl | k_is)
    (case x_BadCharters_BadGround => first | rfl | k_is)
    (case x_BadCharters_BadMany => first | rfl | k_is)
    (case x_BadCharters_BadTold => first | rfl | k_is)
    (case x_BadCharters_Hopeless => first | rfl | k_is)
    (case x_BadCharters_TooMany => first | rfl | k_is)
    (case x_BadGround_BadBook => first | rfl | k_is)
    (case x_BadGround_BadCharter => first | rfl | k_is)
    (case x_BadGround_BadCharters => first | rfl | k_is)
    (case x_BadGround_BadGround => first | rfl | k_is)
    (case x_BadGround_BadMany => first | rfl | k_is)
    (case x_BadGround_BadTold => first | rfl | k_is)
    (case x_BadGround_Hopeless => first | rfl | k_is)
    (case x_BadGround_TooMany => first | rfl | k_is)
    (case x_Hopeless_BadBook => first | rfl | k_is)
    (case x_Hopeless_BadCharter => first | rfl | k_is)
    (case x_Hopeless_BadCharters => first | rfl | k_is)
    (case x_Hopeless_BadGround => first | rfl | k_is)
    (case x_Hopeless_BadMany => first | rfl | k_is)
    (case x_Hopeless_BadTold => first | rfl | k_is)
    (case x_Hopeless_Hopeless => first | rfl | k_is)
    (case x_Hopeless_TooMany => first | rfl | k_is)
    (case x_Refused_BadBook => first | rfl | k_is)
    (case x_Refused_BadCharter => first | rfl | k_is)
    (case x_Refused_BadCharters => first | rfl | k_is)
    (case x_Refused_BadGround => first | rfl | k_is)
    (case x_Refused_BadMany => first | rfl | k_is)
    (case x_Refused_BadTold => first | rfl | k_is)
    (case x_Refused_Hopeless => first | rfl | k_is)
    (case x_Refused_TooMany => first | rfl | k_is)
    (case x_TooMany_BadBook => first | rfl | k_is)
    (case x_TooMany_BadCharter => first | rfl | k_is)
    (case x_TooMany_BadCharters => first | rfl | k_is)
    (case x_TooMany_BadGround => first | rfl | k_is)
    (case x_TooMany_BadMany => first | rfl | k_is)
    (case x_TooMany_BadTold => first | rfl | k_is)
    (case x_TooMany_Hopeless => first | rfl | k_is)
    (case x_TooMany_TooMany => first | rfl | k_is)
    (case y_Hopeless_BadBook => first | rfl | k_is | kit_is)
    (case y_Hopeless_BadCharter => first | rfl | k_is | kit_is)
    (case y_Hopeless_BadCharters => first | rfl | k_is | kit_is)
    (case y_Hopeless_BadGround => first | rfl | k_is | kit_is)
    (case y_Hopeless_BadMany => first | rfl | k_is | kit_is)
    (case y_Hopeless_BadTold => first | rfl | k_is | kit_is)
    (case y_Hopeless_Hopeless => first | rfl | k_is | kit_is)
    (case y_Hopeless_TooMany => first | rfl | k_is | kit_is)
    (case y_Refused_BadBook => first | rfl | k_is | kit_is)
    (case y_Refused_BadCharter => first | rfl | k_is | kit_is)
    (case y_Refused_BadCharters => first | rfl | k_is | kit_is)
    (case y_Refused_BadGround => first | rfl | k_is | kit_is)
    (case y_Refused_BadMany => first | rfl | k_is | kit_is)
    (case y_Refused_BadTold => first | rfl | k_is | kit_is)
    (case y_Refused_Hopeless => first | rfl | k_is | kit_is)
    (case y_Refused_TooMany => first | rfl | k_is | kit_is)
    (case a__law_pool => k_is)
    (case l__law_pool => k_is)
    (case c__law_pool => k_is)
    (case k__law_pool => k_is)
    (case a__law_draw => k_is)
    (case l__law_draw => k_is)
    (case c__law_draw => k_is)
    (case k__law_draw => k_is)
    (case a__law_pick => k_is)
    (case l__law_pick => k_is)
    (case c__law_pick => k_is)
    (case k__law_pick => k_is)
    (case a__law_heard => k_is)
    (case l__law_heard => k_is)
    (case c__law_heard => k_is)
    (case k__law_heard => k_is)
    (case a_is_volume => k_is)
    (case l_is_volume => k_is)
    (case c_is_volume => k_is)
    (case k_is_volume => k_is)
    (case a_is_whole => k_is)
    (case l_is_whole => k_is)
    (case c_is_whole => k_is)
    (case k_is_whole => k_is)
    (case a_is_prime => k_is)
    (case l_is_prime => k_is)
    (case c_is_prime => k_is)
    (case k_is_prime => k_is)
    (case a_are_points => k_is)
    (case l_are_points => k_is)
    (case c_are_points => k_is)
    (case k_are_points => k_is)
    (case a_made_ground => k_is)
    (case l_made_ground => k_is)
    (case c_made_ground => k_is)
    (case k_made_ground => k_is)
    (case a_is_below => k_is)
    (case l_is_below => k_is)
    (case c_is_below => k_is)
    (case k_is_below => k_is)
    (case a_is_bound => k_is)
    (case l_is_bound => k_is)
    (case c_is_bound => k_is)
    (case k_is_bound => k_is)
    (case a_is_fate => k_is)
    (case l_is_fate => k_is)
    (case c_is_fate => k_is)
    (case k_is_fate => k_is)
    (case a_is_row => k_is)
    (case l_is_row => k_is)
    (case c_is_row => k_is)
    (case k_is_row => k_is)
    (case a_made_book => k_is)
    (case l_made_book => k_is)
    (case c_made_book => k_is)
    (case k_made_book => k_is)
    (case a_shelves => k_is)
    (case l_shelves => k_is)
    (case c_shelves => k_is)
    (case k_shelves => k_is)
    (case a_check_told => k_is)
    (case l_check_told => k_is)
    (case c_check_told => k_is)
    (case k_check_told => k_is)
    (case a_lesser => k_is)
    (case l_lesser => k_is)
    (case c_lesser => k_is)
    (case k_lesser => k_is)
    (case a_missing => k_is)
    (case l_missing => k_is)
    (case c_missing => k_is)
    (case k_missing => k_is)
    (case a_greater => k_is)
    (case l_greater => k_is)
    (case c_greater => k_is)
    (case k_greater => k_is)
    (case a_is_bearable_pair => k_is)
    (case l_is_bearable_pair => k_is)
    (case c_is_bearable_pair => k_is)
    (case k_is_bearable_pair => k_is)
    (case a_bearable => k_is)
    (case l_bearable => k_is)
    (case c_bearable => k_is)
    (case o_bearable => k_is)
    (case p11_bearable => exact rfl)
    (case e11_bearable => exact rfl)
    (case e18_bearable => exact rfl)
    (case e7_bearable => exact rfl)
    (case e9_bearable => exact rfl)
    (case e10_bearable => exact rfl)
    (case ne_bearable => decide)
    (case kn_bearable => exact rfl)
    (case rec_bearable => decide +kernel)
    (case k_bearable => k_is)
    (case a_made_charter => k_is)
    (case l_made_charter => k_is)
    (case c_made_charter => k_is)
    (case k_made_charter => k_is)
    (case a_is_charter => k_is)
    (case l_is_charter => k_is)
    (case c_is_charter => k_is)
    (case k_is_charter => k_is)
    (case a_is_entry => k_is)
    (case l_is_entry => k_is)
    (case c_is_entry => k_is)
    (case k_is_entry => k_is)
    (case a_made_charters => k_is)
    (case l_made_charters => k_is)
    (case c_made_charters => k_is)
    (case k_made_charters => k_is)
    (case a__law_many_right => k_is)
    (case l__law_many_right => k_is)
    (case c__law_many_right => k_is)
    (case o__law_many_right => k_is)
    (case p11__law_many_right => exact rfl)
    (case e11__law_many_right => exact rfl)
    (case e18__law_many_right => exact rfl)
    (case e7__law_many_right => exact rfl)
    (case e9__law_many_right => exact rfl)
    (case e10__law_many_right => exact rfl)
    (case ne__law_many_right => decide)
    (case kn__law_many_right => exact rfl)
    (case rec__law_many_right => decide +kernel)
    (case k__law_many_right => k_is)
    (case a__law_bound => k_is)
    (case l__law_bound => k_is)
    (case c__law_bound => k_is)
    (case k__law_bound => k_is)
    (case a__law_row => k_is)
    (case l__law_row => k_is)
    (case c__law_row => k_is)
    (case k__law_row => k_is)
    (case a__law_book => k_is)
    (case l__law_book => k_is)
    (case c__law_book => k_is)
    (case k__law_book => k_is)
    (case a__law_turned => k_is)
    (case l__law_turned => k_is)
    (case c__law_turned => k_is)
    (case k__law_turned => k_is)
    (case a__law_pair => k_is)
    (case l__law_pair => k_is)
    (case c__law_pair => k_is)
    (case k__law_pair => k_is)
    (case a__law_wrong => k_is)
    (case l__law_wrong => k_is)
    (case c__law_wrong => k_is)
    (case k__law_wrong => k_is)
    (case a__law_is_told => k_is)
    (case l__law_is_told => k_is)
    (case c__law_is_told => k_is)
    (case o__law_is_told => k_is)
    (case p11__law_is_told => exact rfl)
    (case e11__law_is_told => exact rfl)
    (case e18__law_is_told => exact rfl)
    (case e7__law_is_told => exact rfl)
    (case e9__law_is_told => exact rfl)
    (case e10__law_is_told => exact rfl)
    (case ne__law_is_told => decide)
    (case kn__law_is_told => exact rfl)
    (case rec__law_is_told => decide +kernel)
    (case k__law_is_told => k_is)
    (case a__law_bearable => k_is)
    (case l__law_bearable => k_is)
    (case c__law_bearable => k_is)
    (case k__law_bearable => k_is)
    (case a__law_due => k_is)
    (case l__law_due => k_is)
    (case c__law_due => k_is)
    (case k__law_due => k_is)
    (case a_law => k_is)
    (case l_law => k_is)
    (case c_law => k_is)
    (case k_law => k_is)
    (case np__law_many_right_bearable => decide)
    (case np__law_is_told_bearable => decide)
    (case np__law_is_told__law_many_right => decide)
    (case b_all => k_is)
    (case b_bool => k_is)
    (case b_enumerate => k_is)
    (case b_int => k_is)
    (case b_isinstance => k_is)
    (case b_len => k_is)
    (case b_list => k_is)
    (case b_max => k_is)
    (case b_min => k_is)
    (case b_range => k_is)
    (case b_tuple => k_is)
    (case b_zip => k_is)
    (case v_LEAST_NUMBERS => k_is)
    (case v_LEAST_PRIME => k_is)
    (case v_MOST_FATE => k_is)
    (case v_MOST_NUMBERS => k_is)
    (case v_MOST_PRIME => k_is)
    (case v_MOST_ROWS => k_is)
    (case v_MOST_SHELVES_books => k_is)
    (case v_MOST_SHELVES_grounds => k_is)
#print axioms PySem.Challenge.cw_firstsafe_k60_charters_holds
